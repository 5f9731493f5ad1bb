import PyProof.Rows.All
import Wide.All
import OpenK.AllK
import Wide.FinOn
import HandS.ForMost
import HandS.Deep
import HandS.Exc
import HandS.ExcOwn
import HandS.WordsExc
import HandS.ExcCtx
import HandS.Wide
import HandS.Style
import HandS.IsInst
import KE.SortCalls
import KE.DataCmp
import KE.DataMinMax
import HandS.Dict
import HandS.Small
import HandS.TupLe
import HandS.SetFor
import KE.KDictSum
import KE.KDictCopyH
import HandS.Iter
import HandS.CallLocal
import HandS.HotCalls
import HandS.ExcField
import KE.KExcIs
import PyProof.EqAt
import PyProof.EqKinds
import KE.OsGo
import HandS.ExcIs
import HandS.DictTup
import HandS.DictComp
import PyProof.P3Eq
import PySem.Challenge.RW_eightroots_k10_whole_mirrors
set_option Elab.async false
set_option linter.all false
set_option maxRecDepth 100000
set_option maxHeartbeats 4000000
namespace Pf
open PySem PySem.Spec PyProof.Rows L2

/-! ## plain data, the feed, outcomes -/
inductive D where
  | non | bl (b : Bool) | int (i : Int) | str (x : Str)
  | lst (l : List D) | tup (l : List D)
  | dk (l : List (Key × D)) | dt (l : List (List Key × D))
  | feed | exn (c : Str) (l : List D) | fnv (x : Str)
  | kz (l : List (Key × D)) | dz (l : List (List Key × D))

/-- can it be changed in place -/
def D.mt : D → Bool
  | .lst _ => true
  | .dk _ => true
  | .dt _ => true
  | _ => false

structure Fd where
  cells : List Int
  pos : Int
  told : Int
  st : Int

structure Fd.Ok (φ : Fd) : Prop where
  n : φ.cells.length ≤ 63
  a0 : 0 ≤ φ.pos
  a1 : φ.pos ≤ φ.cells.length
  t0 : 0 ≤ φ.told
  s0 : 0 ≤ φ.st
  s1 : φ.st < 2147483647

inductive O (α : Type) where
  | ok (a : α) (φ : Fd)
  | ex (c : Str) (l : List D) (φ : Fd)
  | bad

@[inline] def O.bind {α β : Type} (x : O α) (k : α → Fd → O β) : O β :=
  match x with
  | .ok a φ => k a φ
  | .ex c l φ => .ex c l φ
  | .bad => .bad
def ofO {α : Type} (o : Option α) (φ : Fd) : O α :=
  match o with
  | some a => .ok a φ
  | none => .bad

abbrev En := List (Option D)
/-- what an expression does -/
abbrev SX := En → Fd → O D
/-- what a def does -/
abbrev Fn := List D → Fd → O D

/-! ## how data lies in the heap -/
mutual
inductive Rep (K : PySem.W.Frag) (f : Addr) (Z : Hp) : V → D → Prop
  | non : Rep K f Z .non .non
  | bl (b : Bool) : Rep K f Z (.bl b) (.bl b)
  | int (i : Int) : Rep K f Z (.int i) (.int i)
  | str (x : Str) : Rep K f Z (.str x) (.str x)
  | cel {a : Addr} {o : HO} {d : D} : Z a = some o → RepC K f Z o d → Rep K f Z (.ref a) d
  | tup {a : Addr} {vs : List V} {ds : List D} : Z a = some (.tup vs) → Reps K f Z vs ds → Rep K f Z (.ref a) (.tup ds)
  | kz {a : Addr} {od : Obj} {kvs : List (Key × V)} {ds : List (Key × D)} : Z a = some (.frz od (.dK kvs)) → KReps K f Z kvs ds → Rep K f Z (.ref a) (.kz ds)
  | dz {a : Addr} {od : Obj} {kvs : List (List Key × V)} {ds : List (List Key × D)} : Z a = some (.frz od (.dT kvs)) → TReps K f Z kvs ds → Rep K f Z (.ref a) (.dz ds)
  | feed : Rep K f Z (.ref f) .feed
  | exn {a : Addr} {c : Str} {l : List D} : Rep K f Z (.ref a) (.exn c l)
  | fnv {a : Addr} {x : Str} : PySem.W.nsIn K mainGlobals x = some (some (.ref a)) → Rep K f Z (.ref a) (.fnv x)
inductive RepC (K : PySem.W.Frag) (f : Addr) (Z : Hp) : HO → D → Prop
  | lst {vs : List V} {ds : List D} : Reps K f Z vs ds → RepC K f Z (.lst vs) (.lst ds)
  | dk {kvs : List (Key × V)} {ds : List (Key × D)} : KReps K f Z kvs ds → RepC K f Z (.dK kvs) (.dk ds)
  | dt {kvs : List (List Key × V)} {ds : List (List Key × D)} : TReps K f Z kvs ds → RepC K f Z (.dT kvs) (.dt ds)
inductive Reps (K : PySem.W.Frag) (f : Addr) (Z : Hp) : List V → List D → Prop
  | nil : Reps K f Z [] []
  | cons {v : V} {d : D} {vs : List V} {ds : List D} : Rep K f Z v d → Reps K f Z vs ds → Reps K f Z (v :: vs) (d :: ds)
inductive KReps (K : PySem.W.Frag) (f : Addr) (Z : Hp) : List (Key × V) → List (Key × D) → Prop
  | nil : KReps K f Z [] []
  | cons {k : Key} {v : V} {d : D} {r : List (Key × V)} {s : List (Key × D)} : Rep K f Z v d → KReps K f Z r s → KReps K f Z ((k, v) :: r) ((k, d) :: s)
inductive TReps (K : PySem.W.Frag) (f : Addr) (Z : Hp) : List (List Key × V) → List (List Key × D) → Prop
  | nil : TReps K f Z [] []
  | cons {k : List Key} {v : V} {d : D} {r : List (List Key × V)} {s : List (List Key × D)} : Rep K f Z v d → TReps K f Z r s → TReps K f Z ((k, v) :: r) ((k, d) :: s)
end

section
variable {K : PySem.W.Frag} {f : Addr} {Z Z' : Hp}
theorem sqT_mono (h : ∀ a o, Z a = some o → Z' a = some o) {a : Addr} {vs : List V} (q : SqT K Z a vs) : SqT K Z' a vs := by
  rcases q with (q | ⟨o, q⟩) | q
  · exact .inl (.inl (h _ _ q))
  · exact .inl (.inr ⟨o, h _ _ q⟩)
  · exact .inr q
mutual
theorem Rep.mono (h : ∀ a o, Z a = some o → Z' a = some o) : ∀ {v : V} {d : D}, Rep K f Z v d → Rep K f Z' v d
  | _, _, .non => .non
  | _, _, .bl b => .bl b
  | _, _, .int i => .int i
  | _, _, .str x => .str x
  | _, _, .cel e r => .cel (h _ _ e) (r.mono h)
  | _, _, .tup e r => .tup (h _ _ e) (r.mono h)
  | _, _, .kz e r => .kz (h _ _ e) (r.mono h)
  | _, _, .dz e r => .dz (h _ _ e) (r.mono h)
  | _, _, .feed => .feed
  | _, _, .exn => .exn
  | _, _, .fnv e => .fnv e
theorem RepC.mono (h : ∀ a o, Z a = some o → Z' a = some o) : ∀ {v : HO} {d : D}, RepC K f Z v d → RepC K f Z' v d
  | _, _, .lst r => .lst (r.mono h)
  | _, _, .dk r => .dk (r.mono h)
  | _, _, .dt r => .dt (r.mono h)
theorem Reps.mono (h : ∀ a o, Z a = some o → Z' a = some o) : ∀ {v : List V} {d : List D}, Reps K f Z v d → Reps K f Z' v d
  | _, _, .nil => .nil
  | _, _, .cons r s => .cons (r.mono h) (s.mono h)
theorem KReps.mono (h : ∀ a o, Z a = some o → Z' a = some o) : ∀ {v : List (Key × V)} {d : List (Key × D)}, KReps K f Z v d → KReps K f Z' v d
  | _, _, .nil => .nil
  | _, _, .cons r s => .cons (r.mono h) (s.mono h)
theorem TReps.mono (h : ∀ a o, Z a = some o → Z' a = some o) : ∀ {v : List (List Key × V)} {d : List (List Key × D)}, TReps K f Z v d → TReps K f Z' v d
  | _, _, .nil => .nil
  | _, _, .cons r s => .cons (r.mono h) (s.mono h)
end
theorem Reps.length : ∀ {v : List V} {d : List D}, Reps K f Z v d → v.length = d.length
  | _, _, .nil => rfl
  | _, _, .cons _ s => by simp [s.length]
theorem Reps.app : ∀ {v : List V} {d : List D} {v' : List V} {d' : List D}, Reps K f Z v d → Reps K f Z v' d' → Reps K f Z (v ++ v') (d ++ d')
  | _, _, _, _, .nil, s => s
  | _, _, _, _, .cons r t, s => .cons r (t.app s)
theorem Reps.get : ∀ {v : List V} {d : List D} {i : Nat} {x : D}, Reps K f Z v d → d[i]? = some x → ∃ y, v[i]? = some y ∧ Rep K f Z y x
  | _, _, _, _, .nil, e => by simp at e
  | _, _, 0, _, .cons r _, e => by simp at e; subst e; exact ⟨_, rfl, r⟩
  | _, _, i + 1, x, .cons _ t, e => by
    obtain ⟨y, h1, h2⟩ := Reps.get (i := i) (x := x) t (by simpa using e)
    exact ⟨y, by simpa using h1, h2⟩
theorem Reps.getV : ∀ {v : List V} {d : List D} {i : Nat} {y : V}, Reps K f Z v d → v[i]? = some y → ∃ x, d[i]? = some x ∧ Rep K f Z y x
  | _, _, _, _, .nil, e => by simp at e
  | _, _, 0, _, .cons r _, e => by simp at e; subst e; exact ⟨_, rfl, r⟩
  | _, _, i + 1, x, .cons _ t, e => by
    obtain ⟨y, h1, h2⟩ := Reps.getV (i := i) (y := x) t (by simpa using e)
    exact ⟨y, by simpa using h1, h2⟩
theorem Reps.set {y : V} {x : D} (r : Rep K f Z y x) : ∀ {v : List V} {d : List D} (i : Nat), Reps K f Z v d → Reps K f Z (v.set i y) (d.set i x)
  | _, _, _, .nil => .nil
  | _, _, 0, .cons _ t => .cons r t
  | _, _, i + 1, .cons q t => .cons q (t.set r i)
theorem Reps.take : ∀ {v : List V} {d : List D} (n : Nat), Reps K f Z v d → Reps K f Z (v.take n) (d.take n)
  | _, _, 0, _ => .nil
  | _, _, _ + 1, .nil => .nil
  | _, _, n + 1, .cons r t => .cons r (t.take n)
theorem Reps.drop : ∀ {v : List V} {d : List D} (n : Nat), Reps K f Z v d → Reps K f Z (v.drop n) (d.drop n)
  | _, _, 0, r => r
  | _, _, _ + 1, .nil => .nil
  | _, _, n + 1, .cons _ t => t.drop n
theorem Reps.erase : ∀ {v : List V} {d : List D} (n : Nat), Reps K f Z v d → Reps K f Z (v.eraseIdx n) (d.eraseIdx n)
  | _, _, _, .nil => .nil
  | _, _, 0, .cons _ t => t
  | _, _, n + 1, .cons r t => .cons r (t.erase n)
theorem Reps.rev {v : List V} {d : List D} (h : Reps K f Z v d) : Reps K f Z v.reverse d.reverse := by
  induction v generalizing d with
  | nil => cases h; exact .nil
  | cons x v ih =>
    cases h with
    | cons r s => simpa using (ih s).app (.cons r .nil)
theorem Reps.ints : ∀ (ns : List Int), Reps K f Z (ns.map V.int) (ns.map D.int)
  | [] => .nil
  | n :: r => .cons (.int n) (Reps.ints r)
/-- ints back -/
theorem Reps.ints_inv : ∀ {v : List V} {ns : List Int}, Reps K f Z v (ns.map D.int) → v = ns.map V.int
  | _, [], h => by cases h; rfl
  | _, n :: r, h => by
    cases h with
    | cons a b =>
      cases a with
      | int => rw [Reps.ints_inv b]; rfl
      | cel _ q => cases q
end

/-! ## extension, well-formedness -/
/-- the feed's list of cells is the same -/
def FdR (o o' : HO) : Prop := o' = o ∨ ∃ a vs us, o = .lst (.ref a :: vs) ∧ o' = .lst (.ref a :: us)
def FdK (f : Addr) (H H' : Hp) : Prop := ∀ o, H f = some o → ∃ o', H' f = some o' ∧ FdR o o'
theorem FdK.same {f : Addr} {H H' : Hp} (h : H' f = H f) : FdK f H H' := fun o e => ⟨o, h.trans e, .inl rfl⟩
theorem FdK.refl {f : Addr} {H : Hp} : FdK f H H := .same rfl
theorem FdK.trans {f : Addr} {H H1 H2 : Hp} (a : FdK f H H1) (b : FdK f H1 H2) : FdK f H H2 := fun o e => by
  obtain ⟨o1, e1, r1⟩ := a o e
  obtain ⟨o2, e2, r2⟩ := b o1 e1
  refine ⟨o2, e2, ?_⟩
  rcases r1 with rfl | ⟨x, vs, us, rfl, rfl⟩
  · exact r2
  · rcases r2 with rfl | ⟨x', vs', us', h1, h2⟩
    · exact .inr ⟨x, vs, us, rfl, rfl⟩
    · cases h1
      exact .inr ⟨x, vs, us', rfl, h2⟩
structure Ext (f : Addr) (Z H Z' H' : Hp) : Prop where
  z : ∀ a o, Z a = some o → Z' a = some o
  h : ∀ a o, a ≠ f → H a = some o → H' a = some o
  k : ∀ a, H a ≠ none → H' a ≠ none
  n : ∀ a, H a ≠ none → Z a = none → Z' a = none
  d : FdK f H H'
theorem Ext.refl {f : Addr} {Z H : Hp} : Ext f Z H Z H := ⟨fun _ _ h => h, fun _ _ _ h => h, fun _ h => h, fun _ _ h => h, .refl⟩
theorem Ext.trans {f : Addr} {Z H Z1 H1 Z2 H2 : Hp} (a : Ext f Z H Z1 H1) (b : Ext f Z1 H1 Z2 H2) : Ext f Z H Z2 H2 :=
  ⟨fun x o h => b.z x o (a.z x o h), fun x o hx h => b.h x o hx (a.h x o hx h), fun x h => b.k x (a.k x h), fun x h hz => b.n x (a.k x h) (a.n x h hz), a.d.trans b.d⟩

/-- where the feed lies; or: there is no feed (told below 0), f is any cell -/
def FeedZ (Z : Hp) (φ : Fd) (s : Addr × HO) : Prop := (φ.told < 0 ∧ ∀ a l, s.2 ≠ .lst (.ref a :: l)) ∨ (Z s.1 = some (.lst (φ.cells.map V.int)) ∧ s.2 = .lst [.ref s.1, .int φ.pos, .int φ.told, .int φ.st])
theorem FeedZ.mono {Z Z' : Hp} {φ : Fd} {s : Addr × HO} (h : ∀ a o, Z a = some o → Z' a = some o) (q : FeedZ Z φ s) : FeedZ Z' φ s := by
  rcases q with q | ⟨q1, q2⟩
  · exact .inl q
  · exact .inr ⟨h _ _ q1, q2⟩
/-- tuples are frozen as soon as they stand there -/
def TpZ (Z H : Hp) : Prop := ∀ a xs, H a = some (.tup xs) → Z a = some (.tup xs)
theorem TpZ.upd {Z H : Hp} {p : Addr} {o : HO} (h : TpZ Z H) (ho : ∀ xs, o ≠ .tup xs) : TpZ Z (upd H p o) := fun a xs e => by
  by_cases hb : a = p
  · rw [hb, upd_same] at e
    cases e
    exact absurd rfl (ho xs)
  · rw [upd_ne hb] at e; exact h a xs e
theorem TpZ.updZ {Z H : Hp} {p : Addr} {o : HO} (h : TpZ Z H) (hz : Z p = none) : TpZ (L2.upd Z p o) H := fun a xs e => by
  have q := h a xs e
  have : a ≠ p := fun z => by rw [z, hz] at q; cases q
  rw [upd_ne this]; exact q
theorem TpZ.updT {Z H : Hp} {p : Addr} {vs : List V} (h : TpZ Z H) : TpZ (L2.upd Z p (.tup vs)) (L2.upd H p (.tup vs)) := fun a xs e => by
  by_cases hb : a = p
  · subst hb; rw [upd_same] at e ⊢; exact e
  · rw [upd_ne hb] at e ⊢; exact h a xs e
theorem RepC.nt {K : PySem.W.Frag} {f : Addr} {Z : Hp} {o : HO} {d : D} (r : RepC K f Z o d) : ∀ xs, o ≠ .tup xs := by cases r <;> intro xs h <;> cases h
structure Wf (K : PySem.W.Frag) (f : Addr) (Z H : Hp) (φ : Fd) : Prop where
  sub : ∀ a o, Z a = some o → H a = some o
  zf : Z f = none
  feed : ∃ s : Addr × HO, FeedZ Z φ s ∧ H f = some s.2
  ok : 0 ≤ φ.told → φ.Ok
  tt : TpZ Z H
theorem Wf.hf {K : PySem.W.Frag} {f : Addr} {Z H : Hp} {φ : Fd} (w : Wf K f Z H φ) : H f ≠ none := by
  obtain ⟨s, _, h⟩ := w.feed
  rw [h]; simp

inductive Md where | o | s | p | d (n : Nat)
  deriving DecidableEq
/-- lists down to the depth n are new since H0 -/
def Nw (H0 Z : Hp) : Nat → V → D → Prop
  | 0, _, _ => True
  | n + 1, v, .lst ds => ∃ a vs, v = .ref a ∧ Z a = some (.lst vs) ∧ H0 a = none ∧ ∀ (i : Nat) u e, vs[i]? = some u → ds[i]? = some e → Nw H0 Z n u e
  | _ + 1, _, _ => True
theorem Nw.mono {H0 Z Z' : Hp} (h : ∀ a o, Z a = some o → Z' a = some o) : ∀ {n : Nat} {v : V} {d : D}, Nw H0 Z n v d → Nw H0 Z' n v d
  | 0, _, _, _ => trivial
  | n + 1, v, .lst ds, ⟨a, vs, e, hz, h0, k⟩ => ⟨a, vs, e, h _ _ hz, h0, fun i u e' h1 h2 => Nw.mono h (k i u e' h1 h2)⟩
  | _ + 1, _, .non, _ => trivial
  | _ + 1, _, .bl _, _ => trivial
  | _ + 1, _, .int _, _ => trivial
  | _ + 1, _, .str _, _ => trivial
  | _ + 1, _, .tup _, _ => trivial
  | _ + 1, _, .dk _, _ => trivial
  | _ + 1, _, .dt _, _ => trivial
  | _ + 1, _, .feed, _ => trivial
  | _ + 1, _, .exn _ _, _ => trivial
  | _ + 1, _, .fnv _, _ => trivial
  | _ + 1, _, .kz _, _ => trivial
  | _ + 1, _, .dz _, _ => trivial
theorem Nw.start {H0 H1 Z : Hp} (k : ∀ a, H0 a ≠ none → H1 a ≠ none) : ∀ {n : Nat} {v : V} {d : D}, Nw H1 Z n v d → Nw H0 Z n v d
  | 0, _, _, _ => trivial
  | n + 1, v, .lst ds, ⟨a, vs, e, hz, h0, q⟩ => ⟨a, vs, e, hz, Classical.byContradiction fun h => k a h h0, fun i u e' h1 h2 => Nw.start k (q i u e' h1 h2)⟩
  | _ + 1, _, .non, _ => trivial
  | _ + 1, _, .bl _, _ => trivial
  | _ + 1, _, .int _, _ => trivial
  | _ + 1, _, .str _, _ => trivial
  | _ + 1, _, .tup _, _ => trivial
  | _ + 1, _, .dk _, _ => trivial
  | _ + 1, _, .dt _, _ => trivial
  | _ + 1, _, .feed, _ => trivial
  | _ + 1, _, .exn _ _, _ => trivial
  | _ + 1, _, .fnv _, _ => trivial
  | _ + 1, _, .kz _, _ => trivial
  | _ + 1, _, .dz _, _ => trivial
theorem Nw.flat {H0 Z : Hp} {n : Nat} {v : V} {d : D} (h : d.mt = false) : Nw H0 Z n v d := by
  cases n with
  | zero => trivial
  | succ n => cases d <;> first | trivial | cases h
/-- an own cell at v: not frozen -/
def OwnC (K : PySem.W.Frag) (Z H : Hp) (f : Addr) (v : V) (d : D) : Prop := ∃ a o, v = .ref a ∧ Z a = none ∧ a ≠ f ∧ H a = some o ∧ RepC K f Z o d
/-- a result: fresh where it can be changed (o), frozen (s), either (p); H0: the heap at the start -/
def Res (m : Md) (K : PySem.W.Frag) (f : Addr) (H0 Z H : Hp) (v : V) (d : D) : Prop :=
  match m with
  | .s => Rep K f Z v d
  | .p => Rep K f Z v d ∨ OwnC K Z H f v d
  | .o => if d.mt = true then ∃ a o, v = .ref a ∧ H0 a = none ∧ Z a = none ∧ a ≠ f ∧ H a = some o ∧ RepC K f Z o d else Rep K f Z v d
  | .d n => Rep K f Z v d ∧ Nw H0 Z n v d

section
variable {K : PySem.W.Frag} {f : Addr} {Z H Z' H' H0 : Hp} {v : V} {d : D}
theorem OwnC.mono (r : OwnC K Z H f v d) (e : Ext f Z H Z' H') : OwnC K Z' H' f v d := by
  obtain ⟨a, o, rfl, hz, hf, ha, rc⟩ := r
  exact ⟨a, o, rfl, e.n a (by rw [ha]; simp) hz, hf, e.h a o hf ha, rc.mono e.z⟩
theorem Res.pmono (r : Res .p K f H0 Z H v d) (e : Ext f Z H Z' H') : Res .p K f H0 Z' H' v d := by
  rcases r with r | r
  · exact .inl (r.mono e.z)
  · exact .inr (r.mono e)
theorem Res.s2p (r : Rep K f Z v d) : Res .p K f H0 Z H v d := .inl r
theorem Res.o2p (r : Res .o K f H0 Z H v d) : Res .p K f H0 Z H v d := by
  by_cases hm : d.mt = true
  · unfold Res at r
    rw [if_pos hm] at r
    obtain ⟨a, o, rfl, _, hz, hf, ha, rc⟩ := r
    exact .inr ⟨a, o, rfl, hz, hf, ha, rc⟩
  · unfold Res at r
    rw [if_neg hm] at r
    exact .inl r
theorem Res.start {m : Md} {H1 : Hp} (r : Res m K f H1 Z H v d) (k : ∀ a, H0 a ≠ none → H1 a ≠ none) : Res m K f H0 Z H v d := by
  cases m with
  | s => exact r
  | p => exact r
  | d n => exact ⟨r.1, r.2.start k⟩
  | o =>
    by_cases hm : d.mt = true
    · unfold Res at r ⊢
      rw [if_pos hm] at r ⊢
      obtain ⟨a, o, e, h0, q⟩ := r
      refine ⟨a, o, e, ?_, q⟩
      cases hh : H0 a with
      | none => rfl
      | some x => exact absurd h0 (k a (by rw [hh]; simp))
    · unfold Res at r ⊢
      rw [if_neg hm] at r ⊢
      exact r
/-- data that is not changed is frozen in every mode -/
theorem Res.flat {m : Md} (r : Res m K f H0 Z H v d) (h : d.mt = false) : Rep K f Z v d := by
  cases m with
  | s => exact r
  | d n => exact r.1
  | p =>
    rcases r with r | ⟨a, o, _, _, _, _, rc⟩
    · exact r
    · cases rc <;> cases h
  | o =>
    unfold Res at r
    rw [if_neg (by rw [h]; simp)] at r
    exact r
theorem Res.of_flat {m : Md} (r : Rep K f Z v d) (h : d.mt = false) : Res m K f H0 Z H v d := by
  cases m with
  | s => exact r
  | d n => exact ⟨r, .flat h⟩
  | p => exact .inl r
  | o =>
    unfold Res
    rw [if_neg (by rw [h]; simp)]
    exact r
end
/-! what a p-result is, by its data -/
section
variable {K : PySem.W.Frag} {f : Addr} {Z H H0 : Hp} {v : V} {φ : Fd}
theorem Res.int {m : Md} {i : Int} (r : Res m K f H0 Z H v (.int i)) : v = .int i := by
  cases r.flat rfl with
  | int => rfl
  | cel _ q => cases q
theorem Res.bl {m : Md} {i : Bool} (r : Res m K f H0 Z H v (.bl i)) : v = .bl i := by
  cases r.flat rfl with
  | bl => rfl
  | cel _ q => cases q
theorem Res.str {m : Md} {i : Str} (r : Res m K f H0 Z H v (.str i)) : v = .str i := by
  cases r.flat rfl with
  | str => rfl
  | cel _ q => cases q
theorem Res.non {m : Md} (r : Res m K f H0 Z H v .non) : v = .non := by
  cases r.flat rfl with
  | non => rfl
  | cel _ q => cases q
theorem Res.feed {m : Md} (r : Res m K f H0 Z H v .feed) : v = .ref f := by
  cases r.flat rfl with
  | feed => rfl
  | cel _ q => cases q
theorem Res.tup {m : Md} {ds : List D} (r : Res m K f H0 Z H v (.tup ds)) : ∃ a vs, v = .ref a ∧ SqT K Z a vs ∧ Reps K f Z vs ds := by
  cases r.flat rfl with
  | tup e q => exact ⟨_, _, rfl, .inl (.inl e), q⟩
  | cel _ q => cases q
theorem Res.tupT {m : Md} {ds : List D} (r : Res m K f H0 Z H v (.tup ds)) : ∃ a vs, v = .ref a ∧ Z a = some (.tup vs) ∧ Reps K f Z vs ds := by
  cases r.flat rfl with
  | tup e q => exact ⟨_, _, rfl, e, q⟩
  | cel _ q => cases q
theorem Res.dz {m : Md} {ds : List (List Key × D)} (r : Res m K f H0 Z H v (.dz ds)) : ∃ a od kvs, v = .ref a ∧ Z a = some (.frz od (.dT kvs)) ∧ TReps K f Z kvs ds := by
  cases r.flat rfl with
  | dz e q => exact ⟨_, _, _, rfl, e, q⟩
  | cel _ q => cases q
theorem Res.kz {m : Md} {ds : List (Key × D)} (r : Res m K f H0 Z H v (.kz ds)) : ∃ a od kvs, v = .ref a ∧ Z a = some (.frz od (.dK kvs)) ∧ KReps K f Z kvs ds := by
  cases r.flat rfl with
  | kz e q => exact ⟨_, _, _, rfl, e, q⟩
  | cel _ q => cases q
theorem Wf.sqT (w : Wf K f Z H φ) {a : Addr} {vs : List V} (q : SqT K Z a vs) : SqT K H a vs := sqT_mono w.sub q
/-- a list: a tracked cell -/
theorem Res.lst (r : Res .p K f H0 Z H v (.lst ds)) (w : Wf K f Z H φ) : ∃ a vs, v = .ref a ∧ H a = some (.lst vs) ∧ Reps K f Z vs ds := by
  rcases r with r | ⟨a, o, rfl, hz, hf, ha, rc⟩
  · cases r with
    | cel e q =>
      cases q with
      | lst q => exact ⟨_, _, rfl, w.sub _ _ e, q⟩
  · cases rc with
    | lst q => exact ⟨a, _, rfl, ha, q⟩
theorem Res.dk (r : Res .p K f H0 Z H v (.dk ds)) (w : Wf K f Z H φ) : ∃ a vs, v = .ref a ∧ H a = some (.dK vs) ∧ KReps K f Z vs ds := by
  rcases r with r | ⟨a, o, rfl, hz, hf, ha, rc⟩
  · cases r with
    | cel e q =>
      cases q with
      | dk q => exact ⟨_, _, rfl, w.sub _ _ e, q⟩
  · cases rc with
    | dk q => exact ⟨a, _, rfl, ha, q⟩
theorem Res.dt (r : Res .p K f H0 Z H v (.dt ds)) (w : Wf K f Z H φ) : ∃ a vs, v = .ref a ∧ H a = some (.dT vs) ∧ TReps K f Z vs ds := by
  rcases r with r | ⟨a, o, rfl, hz, hf, ha, rc⟩
  · cases r with
    | cel e q =>
      cases q with
      | dt q => exact ⟨_, _, rfl, w.sub _ _ e, q⟩
  · cases rc with
    | dt q => exact ⟨a, _, rfl, ha, q⟩
end
end Pf

set_option Elab.async false
set_option linter.all false
set_option maxRecDepth 100000
set_option maxHeartbeats 4000000
namespace Pf
open PySem PySem.Spec PyProof.Rows L2

/-! ## the state of a def's body -/
/-- fixed through a def's body: the written part, the feed, the frozen part and the heap at the entry; exceptions' classes by name with their field -/
structure Ct where
  K : PySem.W.Frag
  f : Addr
  Z : Hp
  H : Hp
  cls : Str → Option (Addr × List Str)
  s0 : L2.St
  r0 : En
/-- how a slot stands: o own, fresh; s frozen; p as it stood at the start, to be looked at; r as it stood at the start, frozen -/
inductive Ms where | o | s | p | r
  deriving DecidableEq

/-- how an exception lies -/
def XRep (c : Ct) (Z H : Hp) (x : Str) (l : List D) (cls : Value) (dx : Option Addr) : Prop :=
  ∃ C fs, c.cls x = some (C, fs) ∧ cls = .ref C ∧ ∃ vs, Reps c.K c.f Z vs l ∧ vs.length = fs.length ∧
    (fs = [] ∨ ∃ d, dx = some d ∧ d ≠ c.f ∧ H d = some (.xd (fs.zip vs)))

structure Rl (c : Ct) (own : List Ms) (Z : Hp) (ρ : En) (φ : Fd) (σ : L2.St) (H : Hp) : Prop where
  wf : Wf c.K c.f Z H φ
  ext : Ext c.f c.Z c.H Z H
  len : σ.length = ρ.length
  sh : ∀ (i : Nat) (d : D), ρ[i]? = some (some d) → own[i]? ≠ some .o → own[i]? ≠ some .p → ∃ v, σ[i]? = some (some v) ∧ Rep c.K c.f Z v d
  ow : ∀ (i : Nat) (d : D), ρ[i]? = some (some d) → own[i]? = some .o → ∃ v, σ[i]? = some (some v) ∧ Res .o c.K c.f c.H Z H v d
  ne : ∀ (i j : Nat) (a : Addr) (d e : D), i ≠ j → own[i]? = some .o → own[j]? = some .o → ρ[i]? = some (some d) → d.mt = true → ρ[j]? = some (some e) → e.mt = true →
    σ[i]? = some (some (.ref a)) → σ[j]? = some (some (.ref a)) → False
  pn : ∀ (i : Nat) (d : D), ρ[i]? = some (some d) → own[i]? = some .p ∨ own[i]? = some .r → c.r0[i]? = some (some d) ∧ σ[i]? = c.s0[i]?
  pk : ∀ (i : Nat) (d : D), ρ[i]? = some (some d) → own[i]? = some .p → ∃ v, σ[i]? = some (some v) ∧ Res .p c.K c.f c.H c.Z c.H v d

section
variable {c : Ct} {own : List Ms} {Z Z' : Hp} {ρ : En} {φ φ' : Fd} {σ : L2.St} {H H' : Hp}
/-- a variable, in any case to look at -/
theorem Rl.look (R : Rl c own Z ρ φ σ H) {i : Nat} {d : D} (e : ρ[i]? = some (some d)) : ∃ v, σ[i]? = some (some v) ∧ Res .p c.K c.f H Z H v d := by
  by_cases h : own[i]? = some .o
  · obtain ⟨v, e1, r⟩ := R.ow i d e h
    exact ⟨v, e1, r.o2p⟩
  · by_cases h' : own[i]? = some .p
    · obtain ⟨v, e1, r⟩ := R.pk i d e h'
      exact ⟨v, e1, (show Res .p c.K c.f H c.Z c.H v d from r).pmono R.ext⟩
    · obtain ⟨v, e1, r⟩ := R.sh i d e h h'
      exact ⟨v, e1, .inl r⟩
theorem Rl.more (R : Rl c own Z ρ φ σ H) (e : Ext c.f Z H Z' H') (w : Wf c.K c.f Z' H' φ') : Rl c own Z' ρ φ' σ H' := by
  refine ⟨w, R.ext.trans e, R.len, fun i d h1 h2 h3 => ?_, fun i d h1 h2 => ?_, R.ne, R.pn, R.pk⟩
  · obtain ⟨v, e1, r⟩ := R.sh i d h1 h2 h3
    exact ⟨v, e1, r.mono e.z⟩
  · obtain ⟨v, e1, r⟩ := R.ow i d h1 h2
    refine ⟨v, e1, ?_⟩
    by_cases hm : d.mt = true
    · unfold Res at r ⊢
      rw [if_pos hm] at r ⊢
      obtain ⟨a, o, rfl, h0, hz, hf, ha, rc⟩ := r
      exact ⟨a, o, rfl, h0, e.n a (by rw [ha]; simp) hz, hf, e.h a o hf ha, rc.mono e.z⟩
    · unfold Res at r ⊢
      rw [if_neg hm] at r ⊢
      exact r.mono e.z
end

/-! ## an outcome's wish -/
def Post (c : Ct) (m : Md) (W : WX) (o : O D) (σ : L2.St) (Z H : Hp) (Q : VK) : Prop :=
  match o with
  | .ok d φ => ∀ v Z' H', Ext c.f Z H Z' H' → Wf c.K c.f Z' H' φ → Res m c.K c.f H Z' H' v d → Q v H'
  | .ex x l φ => ∀ cls dx Z' H', Ext c.f Z H Z' H' → Wf c.K c.f Z' H' φ → XRep c Z' H' x l cls dx → W cls dx σ H'
  | .bad => False
/-- an expression's reading by what it does -/
def tE (c : Ct) (own : List Ms) (m : Md) (W : WX) (A : SX) : TE := fun σ H Q => ∃ Z ρ φ, Rl c own Z ρ φ σ H ∧ Post c m W (A ρ φ) σ Z H Q
/-- an argument list's -/
abbrev SA := En → Fd → O (List D)
def RAll (m : Md) (K : PySem.W.Frag) (f : Addr) (H0 Z H : Hp) : List V → List D → Prop
  | [], [] => True
  | v :: vs, d :: ds => Res m K f H0 Z H v d ∧ RAll m K f H0 Z H vs ds
  | _, _ => False
theorem RAll.pmono {K : PySem.W.Frag} {f : Addr} {H0 Z H Z' H' : Hp} (e : Ext f Z H Z' H') : ∀ {vs : List V} {ds : List D}, RAll .p K f H0 Z H vs ds → RAll .p K f H0 Z' H' vs ds
  | [], [], _ => trivial
  | _ :: _, _ :: _, h => ⟨h.1.pmono e, RAll.pmono e h.2⟩
theorem RAll.smono {K : PySem.W.Frag} {f : Addr} {H0 Z H Z' H' H1 : Hp} (e : Ext f Z H Z' H') : ∀ {vs : List V} {ds : List D}, RAll .s K f H0 Z H vs ds → RAll .s K f H1 Z' H' vs ds
  | [], [], _ => trivial
  | _ :: _, _ :: _, h => ⟨Rep.mono e.z h.1, RAll.smono e h.2⟩
theorem RAll.start {m : Md} {K : PySem.W.Frag} {f : Addr} {H0 H1 Z H : Hp} (k : ∀ a, H0 a ≠ none → H1 a ≠ none) : ∀ {vs : List V} {ds : List D}, RAll m K f H1 Z H vs ds → RAll m K f H0 Z H vs ds
  | [], [], _ => trivial
  | _ :: _, _ :: _, h => ⟨h.1.start k, RAll.start k h.2⟩
theorem RAll.reps {K : PySem.W.Frag} {f : Addr} {H0 Z H : Hp} : ∀ {vs : List V} {ds : List D}, RAll .s K f H0 Z H vs ds → Reps K f Z vs ds
  | [], [], _ => .nil
  | _ :: _, _ :: _, h => .cons h.1 (RAll.reps h.2)
theorem RAll.length {m : Md} {K : PySem.W.Frag} {f : Addr} {H0 Z H : Hp} : ∀ {vs : List V} {ds : List D}, RAll m K f H0 Z H vs ds → vs.length = ds.length
  | [], [], _ => rfl
  | _ :: _, _ :: _, h => by simp [RAll.length h.2]
def PostA (c : Ct) (m : Md) (W : WX) (o : O (List D)) (σ : L2.St) (Z H : Hp) (Q : List V → Hp → Prop) : Prop :=
  match o with
  | .ok d φ => ∀ v Z' H', Ext c.f Z H Z' H' → Wf c.K c.f Z' H' φ → RAll m c.K c.f H Z' H' v d → Q v H'
  | .ex x l φ => ∀ cls dx Z' H', Ext c.f Z H Z' H' → Wf c.K c.f Z' H' φ → XRep c Z' H' x l cls dx → W cls dx σ H'
  | .bad => False
def tA (c : Ct) (own : List Ms) (m : Md) (W : WX) (A : SA) : TA := fun σ H Q => ∃ Z ρ φ, Rl c own Z ρ φ σ H ∧ PostA c m W (A ρ φ) σ Z H Q
/-- a test's -/
abbrev SB := En → Fd → O Bool
def PostB (c : Ct) (W : WX) (o : O Bool) (σ : L2.St) (Z H : Hp) (Q : Bool → Hp → Prop) : Prop :=
  match o with
  | .ok d φ => ∀ Z' H', Ext c.f Z H Z' H' → Wf c.K c.f Z' H' φ → Q d H'
  | .ex x l φ => ∀ cls dx Z' H', Ext c.f Z H Z' H' → Wf c.K c.f Z' H' φ → XRep c Z' H' x l cls dx → W cls dx σ H'
  | .bad => False
def tB (c : Ct) (own : List Ms) (W : WX) (A : SB) : TT := fun σ H Q => ∃ Z ρ φ, Rl c own Z ρ φ σ H ∧ PostB c W (A ρ φ) σ Z H Q

section
variable {c : Ct} {own : List Ms} {m m1 : Md} {W : WX} {Z H Z1 H1 : Hp} {σ : L2.St}
theorem Post.shift {o : O D} {Q : VK} (e : Ext c.f Z H Z1 H1) (h : Post c m W o σ Z H Q) : Post c m W o σ Z1 H1 Q := by
  cases o with
  | ok d φ => exact fun v Z' H' e' w r => h v Z' H' (e.trans e') w (r.start e.k)
  | ex x l φ => exact fun cls dx Z' H' e' w r => h cls dx Z' H' (e.trans e') w r
  | bad => exact h
theorem PostA.shift {o : O (List D)} {Q : List V → Hp → Prop} (e : Ext c.f Z H Z1 H1) (h : PostA c m W o σ Z H Q) : PostA c m W o σ Z1 H1 Q := by
  cases o with
  | ok d φ => exact fun v Z' H' e' w r => h v Z' H' (e.trans e') w (r.start e.k)
  | ex x l φ => exact fun cls dx Z' H' e' w r => h cls dx Z' H' (e.trans e') w r
  | bad => exact h
theorem PostB.shift {o : O Bool} {Q : Bool → Hp → Prop} (e : Ext c.f Z H Z1 H1) (h : PostB c W o σ Z H Q) : PostB c W o σ Z1 H1 Q := by
  cases o with
  | ok d φ => exact fun Z' H' e' w => h Z' H' (e.trans e') w
  | ex x l φ => exact fun cls dx Z' H' e' w r => h cls dx Z' H' (e.trans e') w r
  | bad => exact h
/-- the wishes of an expression in the midst: E .. any of the three posts of what follows -/
theorem Post.bind {α : Type} {x : O D} {k : D → Fd → O α} {E : O α → Hp → Hp → Prop} {R : VK}
    (hE : ∀ (o : O α) Z1 H1, Ext c.f Z H Z1 H1 → E o Z H → E o Z1 H1) (hX : ∀ y l φ, E (.ex y l φ) Z H → ∀ cls dx Z' H', Ext c.f Z H Z' H' → Wf c.K c.f Z' H' φ → XRep c Z' H' y l cls dx → W cls dx σ H') (hB : ¬ E .bad Z H)
    (h : E (x.bind k) Z H) (hr : ∀ d φ1 v Z1 H1, Ext c.f Z H Z1 H1 → Wf c.K c.f Z1 H1 φ1 → Res m1 c.K c.f H Z1 H1 v d → E (k d φ1) Z1 H1 → R v H1) : Post c m1 W x σ Z H R := by
  cases x with
  | ok d φ => exact fun v Z' H' e w r => hr d φ v Z' H' e w r (hE _ _ _ e h)
  | ex y l φ => exact hX y l φ h
  | bad => exact hB h
theorem Post.bindE {x : O D} {k : D → Fd → O D} {Q R : VK} (h : Post c m W (x.bind k) σ Z H Q)
    (hr : ∀ d φ1 v Z1 H1, Ext c.f Z H Z1 H1 → Wf c.K c.f Z1 H1 φ1 → Res m1 c.K c.f H Z1 H1 v d → Post c m W (k d φ1) σ Z1 H1 Q → R v H1) : Post c m1 W x σ Z H R :=
  Post.bind (E := fun o Z H => Post c m W o σ Z H Q) (fun _ _ _ e h => h.shift e) (fun _ _ _ h => h) (fun h => h) h hr
theorem Post.bindA {x : O D} {k : D → Fd → O (List D)} {Q : List V → Hp → Prop} {R : VK} (h : PostA c m W (x.bind k) σ Z H Q)
    (hr : ∀ d φ1 v Z1 H1, Ext c.f Z H Z1 H1 → Wf c.K c.f Z1 H1 φ1 → Res m1 c.K c.f H Z1 H1 v d → PostA c m W (k d φ1) σ Z1 H1 Q → R v H1) : Post c m1 W x σ Z H R :=
  Post.bind (E := fun o Z H => PostA c m W o σ Z H Q) (fun _ _ _ e h => h.shift e) (fun _ _ _ h => h) (fun h => h) h hr
theorem Post.bindB {x : O D} {k : D → Fd → O Bool} {Q : Bool → Hp → Prop} {R : VK} (h : PostB c W (x.bind k) σ Z H Q)
    (hr : ∀ d φ1 v Z1 H1, Ext c.f Z H Z1 H1 → Wf c.K c.f Z1 H1 φ1 → Res m1 c.K c.f H Z1 H1 v d → PostB c W (k d φ1) σ Z1 H1 Q → R v H1) : Post c m1 W x σ Z H R :=
  Post.bind (E := fun o Z H => PostB c W o σ Z H Q) (fun _ _ _ e h => h.shift e) (fun _ _ _ h => h) (fun h => h) h hr
theorem PostA.bind {α : Type} {x : O (List D)} {k : List D → Fd → O α} {E : O α → Hp → Hp → Prop} {R : List V → Hp → Prop}
    (hE : ∀ (o : O α) Z1 H1, Ext c.f Z H Z1 H1 → E o Z H → E o Z1 H1) (hX : ∀ y l φ, E (.ex y l φ) Z H → ∀ cls dx Z' H', Ext c.f Z H Z' H' → Wf c.K c.f Z' H' φ → XRep c Z' H' y l cls dx → W cls dx σ H') (hB : ¬ E .bad Z H)
    (h : E (x.bind k) Z H) (hr : ∀ d φ1 v Z1 H1, Ext c.f Z H Z1 H1 → Wf c.K c.f Z1 H1 φ1 → RAll m1 c.K c.f H Z1 H1 v d → E (k d φ1) Z1 H1 → R v H1) : PostA c m1 W x σ Z H R := by
  cases x with
  | ok d φ => exact fun v Z' H' e w r => hr d φ v Z' H' e w r (hE _ _ _ e h)
  | ex y l φ => exact hX y l φ h
  | bad => exact hB h
theorem PostA.bindE {x : O (List D)} {k : List D → Fd → O D} {Q : VK} {R : List V → Hp → Prop} (h : Post c m W (x.bind k) σ Z H Q)
    (hr : ∀ d φ1 v Z1 H1, Ext c.f Z H Z1 H1 → Wf c.K c.f Z1 H1 φ1 → RAll m1 c.K c.f H Z1 H1 v d → Post c m W (k d φ1) σ Z1 H1 Q → R v H1) : PostA c m1 W x σ Z H R :=
  PostA.bind (E := fun o Z H => Post c m W o σ Z H Q) (fun _ _ _ e h => h.shift e) (fun _ _ _ h => h) (fun h => h) h hr
theorem PostA.bindA {x : O (List D)} {k : List D → Fd → O (List D)} {Q : List V → Hp → Prop} {R : List V → Hp → Prop} (h : PostA c m W (x.bind k) σ Z H Q)
    (hr : ∀ d φ1 v Z1 H1, Ext c.f Z H Z1 H1 → Wf c.K c.f Z1 H1 φ1 → RAll m1 c.K c.f H Z1 H1 v d → PostA c m W (k d φ1) σ Z1 H1 Q → R v H1) : PostA c m1 W x σ Z H R :=
  PostA.bind (E := fun o Z H => PostA c m W o σ Z H Q) (fun _ _ _ e h => h.shift e) (fun _ _ _ h => h) (fun h => h) h hr
theorem PostB.bind {α : Type} {x : O Bool} {k : Bool → Fd → O α} {E : O α → Hp → Hp → Prop} {R : Bool → Hp → Prop}
    (hE : ∀ (o : O α) Z1 H1, Ext c.f Z H Z1 H1 → E o Z H → E o Z1 H1) (hX : ∀ y l φ, E (.ex y l φ) Z H → ∀ cls dx Z' H', Ext c.f Z H Z' H' → Wf c.K c.f Z' H' φ → XRep c Z' H' y l cls dx → W cls dx σ H') (hB : ¬ E .bad Z H)
    (h : E (x.bind k) Z H) (hr : ∀ d φ1 Z1 H1, Ext c.f Z H Z1 H1 → Wf c.K c.f Z1 H1 φ1 → E (k d φ1) Z1 H1 → R d H1) : PostB c W x σ Z H R := by
  cases x with
  | ok d φ => exact fun Z' H' e w => hr d φ Z' H' e w (hE _ _ _ e h)
  | ex y l φ => exact hX y l φ h
  | bad => exact hB h
theorem PostB.bindE {x : O Bool} {k : Bool → Fd → O D} {Q : VK} {R : Bool → Hp → Prop} (h : Post c m W (x.bind k) σ Z H Q)
    (hr : ∀ d φ1 Z1 H1, Ext c.f Z H Z1 H1 → Wf c.K c.f Z1 H1 φ1 → Post c m W (k d φ1) σ Z1 H1 Q → R d H1) : PostB c W x σ Z H R :=
  PostB.bind (E := fun o Z H => Post c m W o σ Z H Q) (fun _ _ _ e h => h.shift e) (fun _ _ _ h => h) (fun h => h) h hr
theorem PostB.bindB {x : O Bool} {k : Bool → Fd → O Bool} {Q : Bool → Hp → Prop} {R : Bool → Hp → Prop} (h : PostB c W (x.bind k) σ Z H Q)
    (hr : ∀ d φ1 Z1 H1, Ext c.f Z H Z1 H1 → Wf c.K c.f Z1 H1 φ1 → PostB c W (k d φ1) σ Z1 H1 Q → R d H1) : PostB c W x σ Z H R :=
  PostB.bind (E := fun o Z H => PostB c W o σ Z H Q) (fun _ _ _ e h => h.shift e) (fun _ _ _ h => h) (fun h => h) h hr
/-- changing the mode -/
theorem Post.mode {m2 : Md} {o : O D} {Q : VK} (h : Post c m W o σ Z H Q) (k : ∀ d φ v Z' H', Ext c.f Z H Z' H' → Wf c.K c.f Z' H' φ → Res m2 c.K c.f H Z' H' v d → ∃ Z2, Ext c.f Z H Z2 H' ∧ Wf c.K c.f Z2 H' φ ∧ Res m c.K c.f H Z2 H' v d) : Post c m2 W o σ Z H Q := by
  cases o with
  | ok d φ =>
    intro v Z' H' e w r
    obtain ⟨Z2, e2, w2, r2⟩ := k d φ v Z' H' e w r
    exact h v Z2 H' e2 w2 r2
  | ex x l φ => exact h
  | bad => exact h
end

/-! ## the judgements -/
theorem PE.weak {X : Cx} {e : Expr} {t t' : TE} (h : PE X e t) (k : ∀ σ H Q, t' σ H Q → t σ H Q) : PE X e t' := ⟨fun pins s σ H Q I q => h.run pins s σ H Q I (k σ H Q q)⟩
theorem PT.weak {X : Cx} {e : Expr} {t t' : TT} (h : PT X e t) (k : ∀ σ H Q, t' σ H Q → t σ H Q) : PT X e t' := ⟨fun pins s σ H Q I q => h.run pins s σ H Q I (k σ H Q q)⟩
theorem PW.weak {X : Cx} {e : Expr} {t t' : TT} (h : PW X e t) (k : ∀ σ H Q, t' σ H Q → t σ H Q) : PW X e t' := ⟨fun wh pins s σ H Q I q => h.run wh pins s σ H Q I (k σ H Q q)⟩
theorem PA.weak {X : Cx} {e : List Expr} {t t' : TA} (h : PA X e t) (k : ∀ σ H Q, t' σ H Q → t σ H Q) : PA X e t' := ⟨fun pos pins s σ H Q I q => h.run pos pins s σ H Q I (k σ H Q q)⟩
theorem PS.weak {X : Cx} {e : Stmt} {t t' : TS} (h : PS X e t) (k : ∀ D σ H, t' D σ H → t D σ H) : PS X e t' := ⟨fun pins s σ H D I q => h.run pins s σ H D I (k D σ H q)⟩
theorem PSs.weak {X : Cx} {e : List Stmt} {t t' : TS} (h : PSs X e t) (k : ∀ D σ H, t' D σ H → t D σ H) : PSs X e t' := ⟨fun pins s σ H D I q => h.run pins s σ H D I (k D σ H q)⟩
theorem PI.weak {X : Cx} {tg e : Expr} {t t' : TI} (h : PI X tg e t) (k : ∀ σ H R, t' σ H R → t σ H R) : PI X tg e t' := ⟨fun pins s σ H R I q => h.run pins s σ H R I (k σ H R q)⟩

/-- X's written part is c's; the judgement in short -/
structure Sc (X : Cx) (c : Ct) : Prop where
  K : X.K = c.K
abbrev EX (X : Cx) (c : Ct) (own : List Ms) (m : Md) (W : WX) (e : Expr) (A : SX) : Prop := PE X e (tE c own m W A)

section
variable {X : Cx} {c : Ct} {own : List Ms} {m : Md} {W : WX} {e : Expr} {A : SX}
/-- freezing a fresh cell -/
theorem freeze {Z H Z' H' : Hp} {φ : Fd} {a : Addr} {o : HO} {d : D} (e : Ext c.f Z H Z' H') (w : Wf c.K c.f Z' H' φ) (h0 : H a = none) (hz : Z' a = none) (hf : a ≠ c.f) (ha : H' a = some o) (rc : RepC c.K c.f Z' o d) :
    Ext c.f Z H (upd Z' a o) H' ∧ Wf c.K c.f (upd Z' a o) H' φ ∧ Rep c.K c.f (upd Z' a o) (.ref a) d := by
  have up : ∀ b u, Z' b = some u → upd Z' a o b = some u := fun b u q => by rw [upd_ne (ne_of_none q hz)]; exact q
  refine ⟨⟨fun b u q => up b u (e.z b u q), e.h, e.k, fun b hb hzb => ?_, e.d⟩, ⟨fun b u q => ?_, ?_, ?_, w.ok, w.tt.updZ hz⟩, .cel upd_same (rc.mono up)⟩
  · have : b ≠ a := fun z => hb (z ▸ h0)
    rw [upd_ne this]
    exact e.n b hb hzb
  · by_cases hb : b = a
    · subst hb; rw [upd_same] at q; cases q; exact ha
    · rw [upd_ne hb] at q; exact w.sub b u q
  · rw [upd_ne (Ne.symm hf)]; exact w.zf
  · obtain ⟨s, h1, h2⟩ := w.feed
    exact ⟨s, h1.mono up, h2⟩
theorem EX.o2s (h : EX X c own .o W e A) : EX X c own .s W e A := by
  refine PE.weak h ?_
  rintro σ H Q ⟨Z, ρ, φ, R, p⟩
  refine ⟨Z, ρ, φ, R, p.mode fun d φ v Z' H' e w r => ?_⟩
  by_cases hm : d.mt = true
  · unfold Res at r
    rw [if_pos hm] at r
    obtain ⟨a, o, rfl, h0, hz, hf, ha, rc⟩ := r
    obtain ⟨e2, w2, r2⟩ := freeze e w h0 hz hf ha rc
    exact ⟨_, e2, w2, r2⟩
  · unfold Res at r
    rw [if_neg hm] at r
    exact ⟨Z', e, w, r⟩
theorem EX.s2p (h : EX X c own .s W e A) : EX X c own .p W e A := by
  refine PE.weak h ?_
  rintro σ H Q ⟨Z, ρ, φ, R, p⟩
  exact ⟨Z, ρ, φ, R, p.mode fun d φ v Z' H' e w r => ⟨Z', e, w, .inl r⟩⟩
theorem EX.o2p (h : EX X c own .o W e A) : EX X c own .p W e A := by
  refine PE.weak h ?_
  rintro σ H Q ⟨Z, ρ, φ, R, p⟩
  exact ⟨Z, ρ, φ, R, p.mode fun d φ v Z' H' e w r => ⟨Z', e, w, r.o2p⟩⟩
end

/-! ## names, constants -/
def eVar (i : Nat) : SX := fun ρ φ => match ρ[i]? with
  | some (some d) => .ok d φ
  | _ => .bad
def eInt (i : Int) : SX := fun _ φ => .ok (.int i) φ
def eBl (b : Bool) : SX := fun _ φ => .ok (.bl b) φ
def eNon : SX := fun _ φ => .ok .non φ
def eStr (x : Str) : SX := fun _ φ => .ok (.str x) φ
theorem eVar_ok {i : Nat} {ρ : En} {φ : Fd} {c : Ct} {m : Md} {W : WX} {σ : L2.St} {Z H : Hp} {Q : VK} (h : Post c m W (eVar i ρ φ) σ Z H Q) : ∃ d, ρ[i]? = some (some d) ∧ Post c m W (.ok d φ) σ Z H Q := by
  unfold eVar at h
  split at h
  · exact ⟨_, by assumption, h⟩
  · exact h.elim
section
variable {X : Cx} {c : Ct} {own : List Ms} {m : Md} {W : WX} {pos : Pos}
theorem x_var (i : Nat) {x : Str} (hN : X.N[i]? = some x := by rfl) (hv : Vis X.env.scope x := by first | exact Or.inl rfl | exact Or.inr (Or.inl rfl) | exact Or.inr (Or.inr rfl)) (hd : (x == ("__debug__" : Str)) = false := by decide)
    (hcd : (x == ("__classdict__" : Str)) = false := by decide) : EX X c own .p W (.Name x pos) (eVar i) := by
  refine PE.weak (pe_var hN hv hd hcd) ?_
  rintro σ H Q ⟨Z, ρ, φ, R, h⟩
  obtain ⟨d, e, h⟩ := eVar_ok h
  obtain ⟨v, e1, r⟩ := R.look e
  exact ⟨v, e1, h v Z H .refl R.wf r⟩
/-- a variable that is not own: its value may go anywhere -/
theorem x_varS (i : Nat) {x : Str} (ho : own[i]? ≠ some .o := by decide) (hp : own[i]? ≠ some .p := by decide) (hN : X.N[i]? = some x := by rfl) (hv : Vis X.env.scope x := by first | exact Or.inl rfl | exact Or.inr (Or.inl rfl) | exact Or.inr (Or.inr rfl)) (hd : (x == ("__debug__" : Str)) = false := by decide)
    (hcd : (x == ("__classdict__" : Str)) = false := by decide) : EX X c own .s W (.Name x pos) (eVar i) := by
  refine PE.weak (pe_var hN hv hd hcd) ?_
  rintro σ H Q ⟨Z, ρ, φ, R, h⟩
  obtain ⟨d, e, h⟩ := eVar_ok h
  obtain ⟨v, e1, r⟩ := R.sh i d e ho hp
  exact ⟨v, e1, h v Z H .refl R.wf r⟩
theorem x_int {i j} : EX X c own .o W (.Constant (.int i) j pos) (eInt i) :=
  PE.weak pe_int fun σ H Q ⟨Z, ρ, φ, R, h⟩ => h _ Z H .refl R.wf (Res.of_flat (.int i) rfl)
theorem x_bl {b j} : EX X c own .o W (.Constant (.bool b) j pos) (eBl b) :=
  PE.weak pe_bl fun σ H Q ⟨Z, ρ, φ, R, h⟩ => h _ Z H .refl R.wf (Res.of_flat (.bl b) rfl)
theorem x_non {j} : EX X c own .o W (.Constant .none j pos) eNon :=
  PE.weak pe_non fun σ H Q ⟨Z, ρ, φ, R, h⟩ => h _ Z H .refl R.wf (Res.of_flat .non rfl)
theorem x_str {x j} : EX X c own .o W (.Constant (.str x) j pos) (eStr x) :=
  PE.weak pe_str fun σ H Q ⟨Z, ρ, φ, R, h⟩ => h _ Z H .refl R.wf (Res.of_flat (.str x) rfl)
/-- a module's constant that is flat -/
theorem x_glob {x : Str} {v : V} {d : D} {u : Value} (hg : Gl X x := by rfl) (hm : X.mg x = some u) (r : RelV v u) (rd : ∀ K f Z, Rep K f Z v d) (hf : d.mt = false := by rfl) (hd : (x == ("__debug__" : Str)) = false := by decide) :
    EX X c own .o W (.Name x pos) (fun _ φ => .ok d φ) :=
  PE.weak (pe_glob hg hm r hd) fun σ H Q ⟨Z, ρ, φ, R, h⟩ => h _ Z H .refl R.wf (Res.of_flat (rd _ _ _) hf)

/-! ## operators by values -/
def eBin (g : D → D → Option D) (A B : SX) : SX := fun ρ φ => (A ρ φ).bind fun d φ1 => (B ρ φ1).bind fun e φ2 => ofO (g d e) φ2
def eUn (g : D → Option D) (A : SX) : SX := fun ρ φ => (A ρ φ).bind fun d φ1 => ofO (g d) φ1
/-- g tells what the rule r asks -/
def OpG (r : R2) (m : Md) (c : Ct) (g : D → D → Option D) : Prop :=
  ∀ (Z H : Hp) (φ : Fd) (x y : V) (d e z : D) (W : WX) (σ : L2.St) (Q : VK), Wf c.K c.f Z H φ → Res .p c.K c.f H Z H x d → Res .p c.K c.f H Z H y e → g d e = some z → Post c m W (.ok z φ) σ Z H Q → r x y H Q
def UnG (r : V → Hp → VK → Prop) (m : Md) (c : Ct) (g : D → Option D) : Prop :=
  ∀ (Z H : Hp) (φ : Fd) (x : V) (d z : D) (W : WX) (σ : L2.St) (Q : VK), Wf c.K c.f Z H φ → Res .p c.K c.f H Z H x d → g d = some z → Post c m W (.ok z φ) σ Z H Q → r x H Q
theorem ofO_ok {α : Type} {o : Option α} {φ : Fd} {E : O α → Prop} (h : E (ofO o φ)) (hb : ¬ E .bad) : ∃ z, o = some z ∧ E (.ok z φ) := by
  cases o with
  | none => exact absurd h hb
  | some z => exact ⟨z, rfl, h⟩
theorem bin_core {r : R2} {g : D → D → Option D} {A B : SX} (hg : OpG r m c g) {σ : L2.St} {H : Hp} {Q : VK} (h : tE c own m W (eBin g A B) σ H Q) :
    tOp r (tE c own .p W A) (tE c own .p W B) σ H Q := by
  obtain ⟨Z, ρ, φ, R, h⟩ := h
  refine ⟨Z, ρ, φ, R, Post.bindE h fun d φ1 x Z1 H1 e1 w1 r1 h1 => ?_⟩
  refine ⟨Z1, ρ, φ1, R.more e1 w1, Post.bindE h1 fun e φ2 y Z2 H2 e2 w2 r2 h2 => ?_⟩
  obtain ⟨z, hz, h3⟩ := ofO_ok (E := fun o => Post c m W o σ Z2 H2 Q) h2 fun z => z
  exact hg Z2 H2 φ2 x y d e z W σ Q w2 (show Res .p c.K c.f H2 Z2 H2 x d from r1.pmono e2) (show Res .p c.K c.f H2 Z2 H2 y e from r2) hz h3
theorem x_bin {op : Operator} {r : R2} {g : D → D → Option D} {a b : Expr} {A B : SX} (ho : OpR X (binaryOp op) r) (hg : OpG r m c g) (ha : EX X c own .p W a A) (hb : EX X c own .p W b B) :
    EX X c own m W (.BinOp a op b pos) (eBin g A B) := PE.weak (pe_op ho ha hb) fun _ _ _ h => bin_core hg h
theorem x_cmp {op : CmpOp} {r : R2} {g : D → D → Option D} {a b : Expr} {A B : SX} (ho : OpR X (compareOp op) r) (hg : OpG r m c g) (ha : EX X c own .p W a A) (hb : EX X c own .p W b B) (hm : behindInMarks op b = false) :
    EX X c own m W (.Compare a [op] [b] pos) (eBin g A B) := PE.weak (pe_cmpR ho ha hb hm) fun _ _ _ h => bin_core hg h
theorem un_core {r : V → Hp → VK → Prop} {g : D → Option D} {A : SX} (hg : UnG r m c g) {σ : L2.St} {H : Hp} {Q : VK} (h : tE c own m W (eUn g A) σ H Q) : tUn r (tE c own .p W A) σ H Q := by
  obtain ⟨Z, ρ, φ, R, h⟩ := h
  refine ⟨Z, ρ, φ, R, Post.bindE h fun d φ1 x Z1 H1 e1 w1 r1 h1 => ?_⟩
  obtain ⟨z, hz, h3⟩ := ofO_ok (E := fun o => Post c m W o σ Z1 H1 Q) h1 fun z => z
  exact hg Z1 H1 φ1 x d z W σ Q w1 (show Res .p c.K c.f H1 Z1 H1 x d from r1) hz h3
theorem x_un {op : UnaryOp} {r : V → Hp → VK → Prop} {g : D → Option D} {a : Expr} {A : SX} (ho : UnR X (unaryOp op) r) (hg : UnG r m c g) (ha : EX X c own .p W a A) : EX X c own m W (.UnaryOp op a pos) (eUn g A) :=
  PE.weak (pe_un ho ha) fun _ _ _ h => un_core hg h

/-! ## argument lists, calls of built-ins, displays -/
def aNil : SA := fun _ φ => .ok [] φ
def aCons (A : SX) (B : SA) : SA := fun ρ φ => (A ρ φ).bind fun d φ1 => (B ρ φ1).bind fun ds φ2 => .ok (d :: ds) φ2
abbrev AX (X : Cx) (c : Ct) (own : List Ms) (m : Md) (W : WX) (es : List Expr) (A : SA) : Prop := PA X es (tA c own m W A)
theorem x_nil : AX X c own m W [] aNil := PA.weak pa_nil fun σ H Q ⟨Z, ρ, φ, R, h⟩ => h [] Z H .refl R.wf trivial
theorem Res.mono {K : PySem.W.Frag} {f : Addr} {H0 Z H Z' H' : Hp} {v : V} {d : D} (r : Res m K f H0 Z H v d) (e : Ext f Z H Z' H') : Res m K f H0 Z' H' v d := by
  cases m with
  | s => exact Rep.mono e.z r
  | p => exact r.pmono e
  | d n => exact ⟨Rep.mono e.z r.1, Nw.mono e.z r.2⟩
  | o =>
    by_cases hm : d.mt = true
    · unfold Res at r ⊢
      rw [if_pos hm] at r ⊢
      obtain ⟨a, o, rfl, h0, hz, hf, ha, rc⟩ := r
      exact ⟨a, o, rfl, h0, e.n a (by rw [ha]; simp) hz, hf, e.h a o hf ha, rc.mono e.z⟩
    · unfold Res at r ⊢
      rw [if_neg hm] at r ⊢
      exact r.mono e.z
theorem Res.any {K : PySem.W.Frag} {f : Addr} {H0 H1 Z H : Hp} {v : V} {d : D} (hm : m = .s ∨ m = .p) (r : Res m K f H0 Z H v d) : Res m K f H1 Z H v d := by
  cases m with
  | s => exact r
  | p => exact r
  | o => rcases hm with h | h <;> cases h
  | d n => rcases hm with h | h <;> cases h
theorem RAll.any {K : PySem.W.Frag} {f : Addr} {H0 H1 Z H : Hp} (hm : m = .s ∨ m = .p) : ∀ {vs : List V} {ds : List D}, RAll m K f H0 Z H vs ds → RAll m K f H1 Z H vs ds
  | [], [], _ => trivial
  | _ :: _, _ :: _, h => ⟨h.1.any hm, RAll.any hm h.2⟩
theorem x_cons {e : Expr} {es : List Expr} {A : SX} {B : SA} (ha : EX X c own m W e A) (hb : AX X c own m W es B) (hm : m = .s ∨ m = .p := by decide) (hs : starEach (e :: es) X.env = (false, eval e X.env) :: starEach es X.env := by rfl) : AX X c own m W (e :: es) (aCons A B) := by
  refine PA.weak (pa_cons ha hb hs) ?_
  rintro σ H Q ⟨Z, ρ, φ, R, h⟩
  refine ⟨Z, ρ, φ, R, Post.bindA h fun d φ1 x Z1 H1 e1 w1 r1 h1 => ?_⟩
  refine ⟨Z1, ρ, φ1, R.more e1 w1, PostA.bindA h1 fun ds φ2 xs Z2 H2 e2 w2 r2 h2 => ?_⟩
  exact h2 (x :: xs) Z2 H2 .refl w2 ⟨(r1.mono e2).any hm, r2.any hm⟩
/-! displays -/
def eLst (A : SA) : SX := fun ρ φ => (A ρ φ).bind fun ds φ1 => if ds.length ≤ sizeLine then .ok (.lst ds) φ1 else .bad
def eTup (A : SA) : SX := fun ρ φ => (A ρ φ).bind fun ds φ1 => if ds.length ≤ sizeLine then .ok (.tup ds) φ1 else .bad
/-- a new cell, own -/
theorem Post.newO {o : HO} {d : D} {φ : Fd} {Z H : Hp} {σ : L2.St} {Q : VK} (w : Wf c.K c.f Z H φ) (rc : RepC c.K c.f Z o d) (h : Post c .o W (.ok d φ) σ Z H Q) : ∀ p, H p = none → Q (.ref p) (upd H p o) := by
  intro p hp
  have hz : Z p = none := by
    cases e : Z p with
    | none => rfl
    | some u => rw [w.sub p u e] at hp; cases hp
  have hf : p ≠ c.f := fun e => w.hf (e ▸ hp)
  have up : ∀ b u, H b = some u → upd H p o b = some u := fun b u q => by rw [upd_ne (ne_of_none q hp)]; exact q
  have e : Ext c.f Z H Z (upd H p o) := ⟨fun _ _ q => q, fun b u _ q => up b u q, fun b hb => by
    cases e : H b with
    | none => exact absurd e hb
    | some u => rw [up b u e]; simp, fun _ _ q => q, .same (upd_ne (Ne.symm hf))⟩
  refine h _ Z _ e ⟨fun b u q => up b u (w.sub b u q), w.zf, ?_, w.ok, w.tt.upd rc.nt⟩ ?_
  · obtain ⟨s, h1, h2⟩ := w.feed
    exact ⟨s, h1, up _ _ h2⟩
  · have hm : d.mt = true := by cases rc <;> rfl
    unfold Res
    rw [if_pos hm]
    exact ⟨p, o, rfl, hp, hz, hf, upd_same, rc⟩
/-- a new tuple, frozen -/
theorem Post.newT {m : Md} {vs : List V} {ds : List D} {φ : Fd} {Z H : Hp} {σ : L2.St} {Q : VK} (w : Wf c.K c.f Z H φ) (rc : Reps c.K c.f Z vs ds) (h : Post c m W (.ok (.tup ds) φ) σ Z H Q) : ∀ p, H p = none → Q (.ref p) (upd H p (.tup vs)) := by
  intro p hp
  have hz : Z p = none := by
    cases e : Z p with
    | none => rfl
    | some u => rw [w.sub p u e] at hp; cases hp
  have hf : p ≠ c.f := fun e => w.hf (e ▸ hp)
  have up : ∀ b u, H b = some u → upd H p (.tup vs) b = some u := fun b u q => by rw [upd_ne (ne_of_none q hp)]; exact q
  have upz : ∀ b u, Z b = some u → upd Z p (.tup vs) b = some u := fun b u q => by rw [upd_ne (ne_of_none q hz)]; exact q
  have e : Ext c.f Z H (upd Z p (.tup vs)) (upd H p (.tup vs)) := ⟨upz, fun b u _ q => up b u q, fun b hb => by
    cases e : H b with
    | none => exact absurd e hb
    | some u => rw [up b u e]; simp, fun b hb q => by rw [upd_ne (fun z => hb (by rw [z]; exact hp))]; exact q, .same (upd_ne (Ne.symm hf))⟩
  refine h _ _ _ e ⟨fun b u q => ?_, ?_, ?_, w.ok, w.tt.updT⟩ ?_
  · by_cases hb : b = p
    · subst hb; rw [upd_same] at q; cases q; exact upd_same
    · rw [upd_ne hb] at q; exact up b u (w.sub b u q)
  · rw [upd_ne (Ne.symm hf)]; exact w.zf
  · obtain ⟨s, h1, h2⟩ := w.feed
    exact ⟨s, h1.mono upz, up _ _ h2⟩
  · exact Res.of_flat (.tup upd_same (rc.mono upz)) rfl
theorem iteO_ok {b : Prop} [Decidable b] {α : Type} {a : α} {φ : Fd} {E : O α → Prop} (h : E (if b then .ok a φ else .bad)) (hb : ¬ E .bad) : b ∧ E (.ok a φ) := by
  by_cases hc : b
  · rw [if_pos hc] at h; exact ⟨hc, h⟩
  · rw [if_neg hc] at h; exact absurd h hb
theorem x_lst {es : List Expr} {A : SA} (ha : AX X c own .s W es A) : EX X c own .o W (.List es pos) (eLst A) := by
  refine PE.weak (pe_lst ha) ?_
  rintro σ H Q ⟨Z, ρ, φ, R, h⟩
  refine ⟨Z, ρ, φ, R, ?_⟩
  refine PostA.bindE h fun ds φ1 xs Z1 H1 e1 w1 r1 h1 => ?_
  obtain ⟨hl, h2⟩ := iteO_ok (E := fun o => Post c .o W o σ Z1 H1 Q) h1 fun z => z
  exact ⟨by rw [r1.length]; exact hl, h2.newO w1 (.lst r1.reps)⟩
theorem x_tup {es : List Expr} {A : SA} {x1} (ha : AX X c own .s W es A) : EX X c own m W (.Tuple es x1 pos) (eTup A) := by
  refine PE.weak (pe_tup ha) ?_
  rintro σ H Q ⟨Z, ρ, φ, R, h⟩
  refine ⟨Z, ρ, φ, R, ?_⟩
  refine PostA.bindE h fun ds φ1 xs Z1 H1 e1 w1 r1 h1 => ?_
  obtain ⟨hl, h2⟩ := iteO_ok (E := fun o => Post c m W o σ Z1 H1 Q) h1 fun z => z
  exact ⟨by rw [r1.length]; exact hl, h2.newT w1 r1.reps⟩
/-! calls of built-ins -/
def CallG (r : List V → Hp → VK → Prop) (m : Md) (c : Ct) (g : List D → Option D) : Prop :=
  ∀ (Z H : Hp) (φ : Fd) (xs : List V) (ds : List D) (z : D) (W : WX) (σ : L2.St) (Q : VK), Wf c.K c.f Z H φ → RAll .p c.K c.f H Z H xs ds → g ds = some z → Post c m W (.ok z φ) σ Z H Q → r xs H Q
def eCB (g : List D → Option D) (A : SA) : SX := fun ρ φ => (A ρ φ).bind fun ds φ1 => ofO (g ds) φ1
theorem cb_core {r : List V → Hp → VK → Prop} {g : List D → Option D} {A : SA} (hg : CallG r m c g) {σ : L2.St} {H : Hp} {Q : VK} (h : tE c own m W (eCB g A) σ H Q) : tCB r (tA c own .p W A) σ H Q := by
  obtain ⟨Z, ρ, φ, R, h⟩ := h
  refine ⟨Z, ρ, φ, R, PostA.bindE h fun ds φ1 xs Z1 H1 e1 w1 r1 h1 => ?_⟩
  obtain ⟨z, hz, h3⟩ := ofO_ok (E := fun o => Post c m W o σ Z1 H1 Q) h1 fun z => z
  exact hg Z1 H1 φ1 xs ds z W σ Q w1 (r1.any (by decide)) hz h3
theorem x_callB {id : String} {r : List V → Hp → VK → Prop} {g : List D → Option D} {x : Str} {p : Pos} {e : Expr} {es : List Expr} {A : SA} (hc : CallR X (.builtin id) r) (hG : CallG r m c g) (hm : X.mg x = none) (hv : bootBuiltins x = some (.builtin id)) (ha : AX X c own .p W (e :: es) A)
    (hg : Gl X x := by rfl) (hn : x ≠ "__name__" := by decide) (hdb : (x == ("__debug__" : Str)) = false := by decide)
    (he : starEach (e :: es) X.env = (false, eval e X.env) :: starEach es X.env := by rfl) (hpl : (backTo pos (starEach es X.env)).any (·.1) = false := by rfl) : EX X c own m W (.Call (.Name x p) (e :: es) [] pos) (eCB g A) :=
  PE.weak (pe_callB hc hg hm hv ha hn hdb he hpl) fun _ _ _ h => cb_core hG h
theorem x_callT {T : String} {r : List V → Hp → VK → Prop} {g : List D → Option D} {x : Str} {p : Pos} {e : Expr} {es : List Expr} {A : SA} (hc : CallR X (.type T) r) (hG : CallG r m c g) (hm : X.mg x = none) (hv : bootBuiltins x = some (.type T)) (ha : AX X c own .p W (e :: es) A)
    (hg : Gl X x := by rfl) (hn : x ≠ "__name__" := by decide) (hdb : (x == ("__debug__" : Str)) = false := by decide)
    (he : starEach (e :: es) X.env = (false, eval e X.env) :: starEach es X.env := by rfl) (hpl : (backTo pos (starEach es X.env)).any (·.1) = false := by rfl) : EX X c own m W (.Call (.Name x p) (e :: es) [] pos) (eCB g A) :=
  PE.weak (pe_callTy hc hg hm hv ha hn hdb he hpl) fun _ _ _ h => cb_core hG h

/-! tests -/
abbrev BX (X : Cx) (c : Ct) (own : List Ms) (W : WX) (e : Expr) (A : SB) : Prop := PT X e (tB c own W A)
def bVal (A : SX) : SB := fun ρ φ => (A ρ φ).bind fun d φ1 => match d with | .bl b => .ok b φ1 | _ => .bad
/-- an expression that gives True or False, as a test -/
theorem b_val {e : Expr} {A : SX} (h : EX X c own m W e A) (he : ∀ whole, isTrue e X.env whole = (do let v ← whole; standAt e.pos; holding [v] (truthy v)) := by intro _; rfl) : BX X c own W e (bVal A) := by
  refine PT.weak (pt_val h he) ?_
  rintro σ H Q ⟨Z, ρ, φ, R, h⟩
  refine ⟨Z, ρ, φ, R, ?_⟩
  refine Post.bindB h fun d φ1 v Z1 H1 e1 w1 r1 h1 => ?_
  cases d with
  | bl b => exact ⟨b, r1.bl, h1 Z1 H1 .refl w1⟩
  | _ => exact h1.elim
def bCmp (g : D → D → Option D) (A B : SX) : SB := bVal (eBin g A B)
/-- a comparison as a test -/
theorem b_cmp {op : CmpOp} {r : R2} {g : D → D → Option D} {a b : Expr} {A B : SX} (ho : OpR X (compareOp op) r) (hg : OpG r .o c g) (ha : EX X c own .p W a A) (hb : EX X c own .p W b B) (hm : behindInMarks op b = false) :
    BX X c own W (.Compare a [op] [b] pos) (bCmp g A B) := by
  refine PT.weak (pt_cmpR ho ha hb hm) ?_
  rintro σ H Q ⟨Z, ρ, φ, R, h⟩
  show tOp r (tE c own .p W A) (tE c own .p W B) σ H fun x H' => ∃ k, x = .bl k ∧ Q k H'
  refine bin_core (m := .o) hg ⟨Z, ρ, φ, R, ?_⟩
  refine Post.bindB h fun d φ1 v Z1 H1 e1 w1 r1 h1 => ?_
  cases d with
  | bl b => exact ⟨b, r1.bl, h1 Z1 H1 .refl w1⟩
  | _ => exact h1.elim
/-! truth of any value -/
def truD : D → Option Bool
  | .non => some false
  | .bl b => some b
  | .int i => some (i != 0)
  | .str y => if y.length ≤ sizeLine then some ((y.length : Int) != 0) else none
  | .lst l => some (!l.isEmpty)
  | .tup l => some (!l.isEmpty)
  | .dk l => some (!l.isEmpty)
  | _ => none
def bTru (A : SX) : SB := fun ρ φ => (A ρ φ).bind fun d φ1 => ofO (truD d) φ1
theorem isEmpty_reps {K : PySem.W.Frag} {f : Addr} {Z : Hp} {vs : List V} {ds : List D} (h : Reps K f Z vs ds) : (!ds.isEmpty) = !vs.isEmpty := by cases h <;> rfl
theorem isEmpty_kreps {K : PySem.W.Frag} {f : Addr} {Z : Hp} {vs : List (Key × V)} {ds : List (Key × D)} (h : KReps K f Z vs ds) : (!ds.isEmpty) = !vs.isEmpty := by cases h <;> rfl
theorem tru_core {Z H : Hp} {φ : Fd} {v : V} {d : D} {k : Bool} (hK : X.K = c.K) (w : Wf c.K c.f Z H φ) (r : Res .p c.K c.f H Z H v d) (e : truD d = some k) : TruV X.K v H k := by
  cases d with
  | non => cases e; rw [r.non]; rfl
  | bl b => cases e; rw [r.bl]; rfl
  | int i => cases e; rw [r.int]; rfl
  | str y =>
    rw [r.str]
    have e' : (if y.length ≤ sizeLine then some ((y.length : Int) != 0) else none) = some k := e
    by_cases hy : y.length ≤ sizeLine
    · rw [if_pos hy] at e'; cases e'; exact ⟨hy, rfl⟩
    · rw [if_neg hy] at e'; cases e'
  | lst l =>
    cases e
    obtain ⟨a, vs, rfl, ha, q⟩ := r.lst w
    exact .inl ⟨vs, SqL.of ha, isEmpty_reps q⟩
  | tup l =>
    cases e
    obtain ⟨a, vs, rfl, ha, q⟩ := r.tup
    exact .inr (.inl ⟨vs, by rw [hK]; exact w.sqT ha, isEmpty_reps q⟩)
  | dk l =>
    cases e
    obtain ⟨a, vs, rfl, ha, q⟩ := r.dk w
    exact .inr (.inr ⟨vs, ha, isEmpty_kreps q⟩)
  | dt l => cases e
  | feed => cases e
  | exn _ _ => cases e
  | fnv _ => cases e
  | kz _ => cases e
  | dz _ => cases e
theorem b_tru (hK : X.K = c.K) {e : Expr} {A : SX} (h : EX X c own .p W e A) (he : ∀ whole, isTrue e X.env whole = (do let v ← whole; standAt e.pos; holding [v] (truthy v)) := by intro _; rfl) : BX X c own W e (bTru A) := by
  refine PT.weak (pt_truth h he) ?_
  rintro σ H Q ⟨Z, ρ, φ, R, h⟩
  refine ⟨Z, ρ, φ, R, ?_⟩
  refine Post.bindB h fun d φ1 v Z1 H1 e1 w1 r1 h1 => ?_
  obtain ⟨k, hk, h2⟩ := ofO_ok (E := fun o => PostB c W o σ Z1 H1 Q) h1 fun z => z
  exact ⟨k, tru_core hK w1 (r1.any (by decide)) hk, h2 Z1 H1 .refl w1⟩
/-! and, or, not, if .. else -/
def bAnd (A B : SB) : SB := fun ρ φ => (A ρ φ).bind fun b φ1 => if b = true then B ρ φ1 else .ok false φ1
def bOr (A B : SB) : SB := fun ρ φ => (A ρ φ).bind fun b φ1 => if b = true then .ok true φ1 else B ρ φ1
def bNot (A : SB) : SB := fun ρ φ => (A ρ φ).bind fun b φ1 => .ok (!b) φ1
abbrev WW (X : Cx) (c : Ct) (own : List Ms) (W : WX) (e : Expr) (A : SB) : Prop := PW X e (tB c own W A)
section
variable {a b : Expr} {rest : List Expr} {A B : SB}
theorem w_and1 (h : BX X c own W a A) : WW X c own W (.BoolOp .And [a] pos) A := pw_and1 h
theorem w_or1 (h : BX X c own W a A) : WW X c own W (.BoolOp .Or [a] pos) A := pw_or1 h
theorem w_and (ha : BX X c own W a A) (hb : WW X c own W (.BoolOp .And (b :: rest) pos) B) : WW X c own W (.BoolOp .And (a :: b :: rest) pos) (bAnd A B) := by
  refine PW.weak (pw_and ha hb) ?_
  rintro σ H Q ⟨Z, ρ, φ, R, h⟩
  refine ⟨Z, ρ, φ, R, PostB.bindB h fun b φ1 Z1 H1 e1 w1 h1 => ?_⟩
  cases b with
  | true => exact ⟨Z1, ρ, φ1, R.more e1 w1, h1⟩
  | false => exact h1 Z1 H1 .refl w1
theorem w_or (ha : BX X c own W a A) (hb : WW X c own W (.BoolOp .Or (b :: rest) pos) B) : WW X c own W (.BoolOp .Or (a :: b :: rest) pos) (bOr A B) := by
  refine PW.weak (pw_or ha hb) ?_
  rintro σ H Q ⟨Z, ρ, φ, R, h⟩
  refine ⟨Z, ρ, φ, R, PostB.bindB h fun b φ1 Z1 H1 e1 w1 h1 => ?_⟩
  cases b with
  | false => exact ⟨Z1, ρ, φ1, R.more e1 w1, h1⟩
  | true => exact h1 Z1 H1 .refl w1
theorem b_pw (h : WW X c own W a A) : BX X c own W a A := PW.pt h
theorem b_not (ha : BX X c own W a A) : BX X c own W (.UnaryOp .Not a pos) (bNot A) := by
  refine PT.weak (pt_not ha) ?_
  rintro σ H Q ⟨Z, ρ, φ, R, h⟩
  exact ⟨Z, ρ, φ, R, PostB.bindB h fun b φ1 Z1 H1 e1 w1 h1 => h1 Z1 H1 .refl w1⟩
def eIf (T : SB) (A B : SX) : SX := fun ρ φ => (T ρ φ).bind fun b φ1 => if b = true then A ρ φ1 else B ρ φ1
theorem x_if {t a b : Expr} {T : SB} {A B : SX} (ht : BX X c own W t T) (ha : EX X c own m W a A) (hb : EX X c own m W b B) : EX X c own m W (.IfExp t a b pos) (eIf T A B) := by
  refine PE.weak (pe_ifExp ht ha hb) ?_
  rintro σ H Q ⟨Z, ρ, φ, R, h⟩
  refine ⟨Z, ρ, φ, R, PostB.bindE h fun b φ1 Z1 H1 e1 w1 h1 => ?_⟩
  cases b with
  | true => exact ⟨Z1, ρ, φ1, R.more e1 w1, h1⟩
  | false => exact ⟨Z1, ρ, φ1, R.more e1 w1, h1⟩
/-! .. as values -/
def eAnd (A B : SX) : SX := fun ρ φ => (A ρ φ).bind fun d φ1 => match d with | .bl true => B ρ φ1 | .bl false => .ok (.bl false) φ1 | _ => .bad
def eOr (A B : SX) : SX := fun ρ φ => (A ρ φ).bind fun d φ1 => match d with | .bl false => B ρ φ1 | .bl true => .ok (.bl true) φ1 | _ => .bad
def eNot (A : SX) : SX := fun ρ φ => (A ρ φ).bind fun d φ1 => match d with | .bl b => .ok (.bl (!b)) φ1 | _ => .bad
theorem x_one {op} {A : SX} (h : EX X c own m W a A) : EX X c own m W (.BoolOp op [a] pos) A := pe_one h
theorem x_and {A B : SX} (ha : EX X c own .p W a A) (hb : EX X c own m W (.BoolOp .And (b :: rest) pos) B) : EX X c own m W (.BoolOp .And (a :: b :: rest) pos) (eAnd A B) := by
  refine PE.weak (pe_and ha hb) ?_
  rintro σ H Q ⟨Z, ρ, φ, R, h⟩
  refine ⟨Z, ρ, φ, R, Post.bindE h fun d φ1 x Z1 H1 e1 w1 r1 h1 => ?_⟩
  cases d with
  | bl b =>
    cases b with
    | true => exact ⟨true, r1.bl, ⟨Z1, ρ, φ1, R.more e1 w1, h1⟩⟩
    | false => exact ⟨false, r1.bl, h1 _ Z1 H1 .refl w1 (Res.of_flat (.bl false) rfl)⟩
  | _ => exact h1.elim
theorem x_or {A B : SX} (ha : EX X c own .p W a A) (hb : EX X c own m W (.BoolOp .Or (b :: rest) pos) B) : EX X c own m W (.BoolOp .Or (a :: b :: rest) pos) (eOr A B) := by
  refine PE.weak (pe_or ha hb) ?_
  rintro σ H Q ⟨Z, ρ, φ, R, h⟩
  refine ⟨Z, ρ, φ, R, Post.bindE h fun d φ1 x Z1 H1 e1 w1 r1 h1 => ?_⟩
  cases d with
  | bl b =>
    cases b with
    | false => exact ⟨false, r1.bl, ⟨Z1, ρ, φ1, R.more e1 w1, h1⟩⟩
    | true => exact ⟨true, r1.bl, h1 _ Z1 H1 .refl w1 (Res.of_flat (.bl true) rfl)⟩
  | _ => exact h1.elim
theorem x_not {A : SX} (ha : EX X c own .p W a A) : EX X c own m W (.UnaryOp .Not a pos) (eNot A) := by
  refine PE.weak (pe_not ha) ?_
  rintro σ H Q ⟨Z, ρ, φ, R, h⟩
  refine ⟨Z, ρ, φ, R, Post.bindE h fun d φ1 x Z1 H1 e1 w1 r1 h1 => ?_⟩
  cases d with
  | bl b => exact ⟨b, r1.bl, h1 _ Z1 H1 .refl w1 (Res.of_flat (.bl _) rfl)⟩
  | _ => exact h1.elim
end
end
end Pf

set_option Elab.async false
set_option linter.all false
set_option maxRecDepth 100000
set_option maxHeartbeats 4000000
namespace Pf
open PySem PySem.Spec PyProof.Rows L2

theorem Post.now {c : Ct} {m : Md} {W : WX} {z : D} {φ : Fd} {σ : L2.St} {Z H : Hp} {Q : VK} {v : V} (h : Post c m W (.ok z φ) σ Z H Q) (w : Wf c.K c.f Z H φ) (r : Res m c.K c.f H Z H v z) : Q v H := h v Z H .refl w r
theorem Post.nowI {c : Ct} {m : Md} {W : WX} {i : Int} {φ : Fd} {σ : L2.St} {Z H : Hp} {Q : VK} (h : Post c m W (.ok (.int i) φ) σ Z H Q) (w : Wf c.K c.f Z H φ) : Q (.int i) H := h _ Z H .refl w (Res.of_flat (.int i) rfl)
theorem Post.nowB {c : Ct} {m : Md} {W : WX} {b : Bool} {φ : Fd} {σ : L2.St} {Z H : Hp} {Q : VK} (h : Post c m W (.ok (.bl b) φ) σ Z H Q) (w : Wf c.K c.f Z H φ) : Q (.bl b) H := h _ Z H .refl w (Res.of_flat (.bl b) rfl)
theorem Post.nowS {c : Ct} {m : Md} {W : WX} {b : Str} {φ : Fd} {σ : L2.St} {Z H : Hp} {Q : VK} (h : Post c m W (.ok (.str b) φ) σ Z H Q) (w : Wf c.K c.f Z H φ) : Q (.str b) H := h _ Z H .refl w (Res.of_flat (.str b) rfl)

/-! ## numbers -/
def gI (g : Int → Int → Int) : D → D → Option D
  | .int i, .int j => some (.int (g i j))
  | _, _ => none
def gIB (g : Int → Int → Bool) : D → D → Option D
  | .int i, .int j => some (.bl (g i j))
  | _, _ => none
def gIc (C : Int → Int → Bool) (g : Int → Int → Int) : D → D → Option D
  | .int i, .int j => if C i j = true then some (.int (g i j)) else none
  | _, _ => none
theorem gI_ok {m : Md} {c : Ct} {g : Int → Int → Int} : OpG (rI0 fun i j => .int (g i j)) m c (gI g) := by
  intro Z H φ x y d e z W σ Q w rx ry hg h
  cases d with
  | int i =>
    cases e with
    | int j => cases hg; exact ⟨i, j, rx.int, ry.int, h.nowI w⟩
    | _ => cases hg
  | _ => cases hg
theorem gIB_ok {m : Md} {c : Ct} {g : Int → Int → Bool} : OpG (rI0 fun i j => .bl (g i j)) m c (gIB g) := by
  intro Z H φ x y d e z W σ Q w rx ry hg h
  cases d with
  | int i =>
    cases e with
    | int j => cases hg; exact ⟨i, j, rx.int, ry.int, h.nowB w⟩
    | _ => cases hg
  | _ => cases hg
theorem gIc_ok {m : Md} {c : Ct} {C : Int → Int → Bool} {C' : Int → Int → Prop} {g : Int → Int → Int} (hC : ∀ i j, C i j = true → C' i j) : OpG (rI C' fun i j => .int (g i j)) m c (gIc C g) := by
  intro Z H φ x y d e z W σ Q w rx ry hg h
  cases d with
  | int i =>
    cases e with
    | int j =>
      have hg' : (if C i j = true then some (D.int (g i j)) else none) = some z := hg
      by_cases q : C i j = true
      · rw [if_pos q] at hg'; cases hg'
        exact ⟨i, j, rx.int, ry.int, hC _ _ q, h.nowI w⟩
      · rw [if_neg q] at hg'; cases hg'
    | _ => cases hg
  | _ => cases hg
def gSub : D → D → Option D := gI fun i j => i - j
def cDiv (i j : Int) : Bool := decide (j ≠ 0) && decide (j.natAbs < 1073741824)
def gDiv : D → D → Option D := gIc cDiv fun i j => i.fdiv j
def gMod : D → D → Option D := gIc (fun _ j => decide (j ≠ 0)) fun i j => i.fmod j
def cPow (i j : Int) : Bool := decide (0 ≤ j) && decide (j ≤ 1000000) && decide (i.natAbs < 18446744073709551616)
def gPow : D → D → Option D := gIc cPow fun i j => i ^ j.toNat
def gShl : D → D → Option D := gIc cPow fun i j => i * 2 ^ j.toNat
def gShr : D → D → Option D := gIc (fun _ j => decide (0 ≤ j)) fun i j => i / 2 ^ j.toNat
def gAnd : D → D → Option D := gI Builtin.bitAnd
def gLt : D → D → Option D := gIB fun i j => decide (i < j)
def gLe : D → D → Option D := gIB fun i j => decide (i ≤ j)
def gGt : D → D → Option D := gIB fun i j => decide (j < i)
def gGe : D → D → Option D := gIB fun i j => decide (j ≤ i)
section
variable {X : Cx} {c : Ct} {own : List Ms} {W : WX} {a b : Expr} {A B : SX} {pos : Pos}
theorem x_sub (ha : EX X c own .p W a A) (hb : EX X c own .p W b B) : EX X c own .o W (.BinOp a .Sub b pos) (eBin gSub A B) := x_bin op_sub gI_ok ha hb
theorem x_div (ha : EX X c own .p W a A) (hb : EX X c own .p W b B) : EX X c own .o W (.BinOp a .FloorDiv b pos) (eBin gDiv A B) :=
  x_bin op_fdivN (gIc_ok fun i j h => by unfold cDiv at h; simpa [CDivN] using h) ha hb
theorem x_mod (ha : EX X c own .p W a A) (hb : EX X c own .p W b B) : EX X c own .o W (.BinOp a .Mod b pos) (eBin gMod A B) :=
  x_bin op_modN (gIc_ok fun i j h => by simpa using h) ha hb
theorem x_pow (ha : EX X c own .p W a A) (hb : EX X c own .p W b B) : EX X c own .o W (.BinOp a .Pow b pos) (eBin gPow A B) :=
  x_bin op_pow (gIc_ok fun i j h => by unfold cPow at h; simpa [CPow, and_assoc] using h) ha hb
theorem x_shl (ha : EX X c own .p W a A) (hb : EX X c own .p W b B) : EX X c own .o W (.BinOp a .LShift b pos) (eBin gShl A B) :=
  x_bin op_shl (gIc_ok fun i j h => by unfold cPow at h; simpa [CPow, and_assoc] using h) ha hb
theorem x_shr (ha : EX X c own .p W a A) (hb : EX X c own .p W b B) : EX X c own .o W (.BinOp a .RShift b pos) (eBin gShr A B) :=
  x_bin op_shr (gIc_ok fun i j h => by simpa using h) ha hb
theorem x_band (ha : EX X c own .p W a A) (hb : EX X c own .p W b B) : EX X c own .o W (.BinOp a .BitAnd b pos) (eBin gAnd A B) := x_bin op_and gI_ok ha hb
/-! comparisons of ints -/
theorem x_lt (ha : EX X c own .p W a A) (hb : EX X c own .p W b B) : EX X c own .o W (.Compare a [.Lt] [b] pos) (eBin gLt A B) := x_cmp op_lt gIB_ok ha hb (nomark _)
theorem x_le (ha : EX X c own .p W a A) (hb : EX X c own .p W b B) : EX X c own .o W (.Compare a [.LtE] [b] pos) (eBin gLe A B) := x_cmp op_le gIB_ok ha hb (nomark _)
theorem x_gt (ha : EX X c own .p W a A) (hb : EX X c own .p W b B) : EX X c own .o W (.Compare a [.Gt] [b] pos) (eBin gGt A B) := x_cmp op_gt gIB_ok ha hb (nomark _)
theorem x_ge (ha : EX X c own .p W a A) (hb : EX X c own .p W b B) : EX X c own .o W (.Compare a [.GtE] [b] pos) (eBin gGe A B) := x_cmp op_ge gIB_ok ha hb (nomark _)
theorem b_lt (ha : EX X c own .p W a A) (hb : EX X c own .p W b B) : BX X c own W (.Compare a [.Lt] [b] pos) (bCmp gLt A B) := b_cmp op_lt gIB_ok ha hb (nomark _)
theorem b_le (ha : EX X c own .p W a A) (hb : EX X c own .p W b B) : BX X c own W (.Compare a [.LtE] [b] pos) (bCmp gLe A B) := b_cmp op_le gIB_ok ha hb (nomark _)
theorem b_gt (ha : EX X c own .p W a A) (hb : EX X c own .p W b B) : BX X c own W (.Compare a [.Gt] [b] pos) (bCmp gGt A B) := b_cmp op_gt gIB_ok ha hb (nomark _)
theorem b_ge (ha : EX X c own .p W a A) (hb : EX X c own .p W b B) : BX X c own W (.Compare a [.GtE] [b] pos) (bCmp gGe A B) := b_cmp op_ge gIB_ok ha hb (nomark _)
/-! -a -/
def gNeg : D → Option D
  | .int i => some (.int (-i))
  | _ => none
theorem gNeg_ok {m : Md} : UnG (rU fun i => .int (-i)) m c gNeg := by
  intro Z H φ x d z W σ Q w rx hg h
  cases d with
  | int i => cases hg; exact ⟨i, rx.int, h.nowI w⟩
  | _ => cases hg
theorem x_neg (ha : EX X c own .p W a A) : EX X c own .o W (.UnaryOp .USub a pos) (eUn gNeg A) := x_un un_neg gNeg_ok ha
end

/-! ## + and * -/
def gAdd : D → D → Option D
  | .int i, .int j => some (.int (i + j))
  | .lst l, .lst k => if l.length + k.length ≤ sizeLine then some (.lst (l ++ k)) else none
  | .str x, .str y => if x.length + y.length ≤ sizeLine then some (.str (x ++ y)) else none
  | .tup l, .tup k => if l.length + k.length ≤ sizeLine ∧ l.isEmpty = false then some (.tup (l ++ k)) else none
  | _, _ => none
def cMul (i j : Int) : Bool := decide (i.natAbs < 18446744073709551616) || (decide (j.natAbs < 18446744073709551616) || decide (i.natAbs.log2 + j.natAbs.log2 < 1000000))
def gMul : D → D → Option D
  | .int i, .int j => if cMul i j = true then some (.int (i * j)) else none
  | .lst l, .int k => if -9223372036854775808 ≤ k ∧ k < 9223372036854775808 ∧ l.length * k.toNat ≤ sizeLine then some (.lst (List.replicate k.toNat l).flatten) else none
  | _, _ => none
theorem ifs {α : Type} {p : Prop} [Decidable p] {a z : α} (h : (if p then some a else none) = some z) : p ∧ a = z := by
  by_cases q : p
  · rw [if_pos q] at h; exact ⟨q, Option.some.inj h⟩
  · rw [if_neg q] at h; cases h
theorem Reps.flat {K : PySem.W.Frag} {f : Addr} {Z : Hp} {vs : List V} {ds : List D} (r : Reps K f Z vs ds) : ∀ n, Reps K f Z (List.replicate n vs).flatten (List.replicate n ds).flatten
  | 0 => .nil
  | n + 1 => by rw [List.replicate_succ, List.replicate_succ, List.flatten_cons, List.flatten_cons]; exact r.app (r.flat n)
section
variable {X : Cx} {c : Ct} {own : List Ms} {W : WX} {a b : Expr} {A B : SX} {pos : Pos}
def rAddD (K : PySem.W.Frag) : R2 := fun x y H Q => (∃ i j, x = .int i ∧ y = .int j ∧ Q (.int (i + j)) H) ∨ rCat x y H Q ∨ (∃ i j, x = .str i ∧ y = .str j ∧ i.length + j.length ≤ sizeLine ∧ Q (.str (i ++ j)) H) ∨ rCatT K x y H Q
theorem op_addD : OpR X (binaryOp .Add) (rAddD X.K) := OpR.or op_add (OpR.or op_cat (OpR.or op_add_str op_catT))
theorem gAdd_ok : OpG (rAddD c.K) .o c gAdd := by
  intro Z H φ x y d e z W σ Q w rx ry hg h
  cases d with
  | int i =>
    cases e with
    | int j => cases hg; exact .inl ⟨i, j, rx.int, ry.int, h.nowI w⟩
    | _ => cases hg
  | str i =>
    cases e with
    | str j =>
      obtain ⟨hz, rfl⟩ := ifs hg
      exact .inr (.inr (.inl ⟨i, j, rx.str, ry.str, hz, h.nowS w⟩))
    | _ => cases hg
  | lst l =>
    cases e with
    | lst k =>
      obtain ⟨hz, rfl⟩ := ifs hg
      obtain ⟨a, vs, rfl, ha, q⟩ := rx.lst w
      obtain ⟨b, us, rfl, hb, q'⟩ := ry.lst w
      exact .inr (.inl ⟨a, b, vs, us, rfl, rfl, ha, hb, by rw [q.length, q'.length]; exact hz, h.newO w (.lst (q.app q'))⟩)
    | _ => cases hg
  | tup l =>
    cases e with
    | tup k =>
      obtain ⟨⟨hz, hne⟩, rfl⟩ := ifs hg
      obtain ⟨a, vs, rfl, ha, q⟩ := rx.tupT
      obtain ⟨b, us, rfl, hb, q'⟩ := ry.tup
      refine .inr (.inr (.inr ⟨a, b, vs, us, rfl, rfl, w.sqT (.inl (.inl ha)), w.sqT hb, ?_, by rw [q.length, q'.length]; exact hz, ?_, fun _ => h.newT w (q.app q')⟩))
      · rintro rfl
        cases q
        cases hne
      · rintro rfl
        cases q'
        rw [List.append_nil] at h
        exact h.now w (Res.of_flat (.tup ha q) rfl)
    | _ => cases hg
  | _ => cases hg
theorem x_add (hK : X.K = c.K) (ha : EX X c own .p W a A) (hb : EX X c own .p W b B) : EX X c own .o W (.BinOp a .Add b pos) (eBin gAdd A B) := x_bin op_addD (by rw [hK]; exact gAdd_ok) ha hb
def rMulD : R2 := fun x y H Q => (rI CMul (fun i j => .int (i * j)) x y H Q ∨ rI CMulW (fun i j => .int (i * j)) x y H Q) ∨ rRep x y H Q
theorem op_mulD : OpR X (binaryOp .Mult) rMulD := OpR.or (OpR.or op_mul op_mulW) op_rep
theorem cMul_ok {i j : Int} (h : cMul i j = true) : CMul i j ∨ CMulW i j := by
  unfold cMul at h
  simp only [Bool.or_eq_true, decide_eq_true_eq] at h
  rcases h with h | h | h
  · exact .inl (.inl (by omega))
  · exact .inl (.inr (by omega))
  · exact .inr h
theorem gMul_ok : OpG rMulD .o c gMul := by
  intro Z H φ x y d e z W σ Q w rx ry hg h
  cases d with
  | int i =>
    cases e with
    | int j =>
      obtain ⟨hz, rfl⟩ := ifs hg
      rcases cMul_ok hz with hm | hm
      · exact .inl (.inl ⟨i, j, rx.int, ry.int, hm, h.nowI w⟩)
      · exact .inl (.inr ⟨i, j, rx.int, ry.int, hm, h.nowI w⟩)
    | _ => cases hg
  | lst l =>
    cases e with
    | int k =>
      obtain ⟨⟨h1, h2, hz⟩, rfl⟩ := ifs hg
      obtain ⟨a, vs, rfl, ha, q⟩ := rx.lst w
      exact .inr ⟨a, k, vs, rfl, ry.int, ha, h1, h2, by rw [q.length]; exact hz, h.newO w (.lst (q.flat _))⟩
    | _ => cases hg
  | _ => cases hg
theorem x_mul (ha : EX X c own .p W a A) (hb : EX X c own .p W b B) : EX X c own .o W (.BinOp a .Mult b pos) (eBin gMul A B) := x_bin op_mulD gMul_ok ha hb
end

/-! ## equality -/
mutual
def D.py : D → PyData
  | .non => .none
  | .bl b => .bool b
  | .int i => .int i
  | .str x => .str x
  | .lst l => .list (D.pys l)
  | .tup l => .tuple (D.pys l)
  | _ => .dict []
def D.pys : List D → List PyData
  | [] => []
  | d :: ds => D.py d :: D.pys ds
end
theorem sqL_of {K : PySem.W.Frag} {H : Hp} {a : Addr} {vs : List V} (h : H a = some (.lst vs)) : SqL K H a vs := SqL.of h
mutual
theorem Rep.dp {K : PySem.W.Frag} {f : Addr} {Z : Hp} : ∀ {v : V} {d : D}, Rep K f Z v d → d.py.canLay0 = true → Dp K Z v d.py
  | _, _, .non, _ => .non
  | _, _, .bl b, _ => .bl b
  | _, _, .int b, _ => .int b
  | _, _, .str b, _ => .str b
  | _, _, .cel e q, hc => RepC.dp q e hc
  | _, _, .tup e q, hc => .tup (.inl (.inl e)) (Reps.dp q hc)
  | _, _, .feed, hc => (Bool.false_ne_true hc).elim
  | _, _, .fnv _, hc => (Bool.false_ne_true hc).elim
  | _, _, .kz _ _, hc => (Bool.false_ne_true hc).elim
  | _, _, .dz _ _, hc => (Bool.false_ne_true hc).elim
theorem RepC.dp {K : PySem.W.Frag} {f : Addr} {Z : Hp} : ∀ {o : HO} {d : D}, RepC K f Z o d → ∀ {a : Addr}, Z a = some o → d.py.canLay0 = true → Dp K Z (.ref a) d.py
  | _, _, .lst q, _, e, hc => .lst (SqL.of e) (Reps.dp q hc)
  | _, _, .dk _, _, _, hc => (Bool.false_ne_true hc).elim
  | _, _, .dt _, _, _, hc => (Bool.false_ne_true hc).elim
theorem Reps.dp {K : PySem.W.Frag} {f : Addr} {Z : Hp} : ∀ {vs : List V} {ds : List D}, Reps K f Z vs ds → PyData.canLayAll0 (D.pys ds) = true → DpAll K Z vs (D.pys ds)
  | _, _, .nil, _ => .nil
  | _, _, .cons r s, hc => by
    have hc' := (Bool.and_eq_true_iff.mp hc)
    exact .cons (Rep.dp r hc'.1) (Reps.dp s hc'.2)
end
theorem sqL_mono {K : PySem.W.Frag} {Z Z' : Hp} (h : ∀ a o, Z a = some o → Z' a = some o) {a : Addr} {vs : List V} (q : SqL K Z a vs) : SqL K Z' a vs := by
  rcases q with (q | ⟨o, q⟩) | q
  · exact .inl (.inl (h _ _ q))
  · exact .inl (.inr ⟨o, h _ _ q⟩)
  · exact .inr q
mutual
theorem Dp.mono {K : PySem.W.Frag} {Z Z' : Hp} (h : ∀ a o, Z a = some o → Z' a = some o) : ∀ {v : V} {d : PyData}, Dp K Z v d → Dp K Z' v d
  | _, _, .non => .non
  | _, _, .bl b => .bl b
  | _, _, .int b => .int b
  | _, _, .str b => .str b
  | _, _, .lst e q => .lst (sqL_mono h e) (DpAll.mono h q)
  | _, _, .tup e q => .tup (sqT_mono h e) (DpAll.mono h q)
theorem DpAll.mono {K : PySem.W.Frag} {Z Z' : Hp} (h : ∀ a o, Z a = some o → Z' a = some o) : ∀ {v : List V} {d : List PyData}, DpAll K Z v d → DpAll K Z' v d
  | _, _, .nil => .nil
  | _, _, .cons r s => .cons (Dp.mono h r) (DpAll.mono h s)
end
section
variable {X : Cx} {c : Ct} {own : List Ms} {m : Md} {W : WX} {a b : Expr} {A B : SX} {pos : Pos}
theorem Res.dp {Z H : Hp} {φ : Fd} {v : V} {d : D} (w : Wf c.K c.f Z H φ) (r : Res .p c.K c.f H Z H v d) (hc : d.py.canLay0 = true) : Dp c.K H v d.py := by
  rcases r with r | ⟨a, o, rfl, hz, hf, ha, rc⟩
  · exact Dp.mono w.sub (Rep.dp r hc)
  · cases rc with
    | lst q => exact .lst (SqL.of ha) (DpAll.mono w.sub (Reps.dp q hc))
    | dk q => cases hc
    | dt q => cases hc
def D.shp (d : D) : Bool := SeqAt.shaped d.py
def gEq : D → D → Option D := fun d e => if d.shp && e.shp then some (.bl (PyData.eqv d.py e.py)) else none
def gNe : D → D → Option D := fun d e => if d.shp && e.shp then some (.bl (!PyData.eqv d.py e.py)) else none
theorem gEq_ok : OpG (rEqD c.K) m c gEq := by
  intro Z H φ x y d e z W σ Q w rx ry hg h
  obtain ⟨hs, rfl⟩ := ifs hg
  rw [Bool.and_eq_true] at hs
  exact ⟨_, _, rx.dp w (SeqAt.canLay_of_shaped hs.1), ry.dp w (SeqAt.canLay_of_shaped hs.2), hs.1, hs.2, h.nowB w⟩
theorem gNe_ok : OpG (rNeD c.K) m c gNe := by
  intro Z H φ x y d e z W σ Q w rx ry hg h
  obtain ⟨hs, rfl⟩ := ifs hg
  rw [Bool.and_eq_true] at hs
  exact ⟨_, _, rx.dp w (SeqAt.canLay_of_shaped hs.1), ry.dp w (SeqAt.canLay_of_shaped hs.2), hs.1, hs.2, h.nowB w⟩
theorem x_eq (hK : X.K = c.K) (hu : X.A.units + 64 < cLine) (ha : EX X c own .p W a A) (hb : EX X c own .p W b B) : EX X c own .o W (.Compare a [.Eq] [b] pos) (eBin gEq A B) := x_cmp (op_eqD hu) (by rw [hK]; exact gEq_ok) ha hb (nomark _)
theorem x_ne (hK : X.K = c.K) (hu : X.A.units + 64 < cLine) (ha : EX X c own .p W a A) (hb : EX X c own .p W b B) : EX X c own .o W (.Compare a [.NotEq] [b] pos) (eBin gNe A B) := x_cmp (op_neD hu) (by rw [hK]; exact gNe_ok) ha hb (nomark _)
theorem b_eq (hK : X.K = c.K) (hu : X.A.units + 64 < cLine) (ha : EX X c own .p W a A) (hb : EX X c own .p W b B) : BX X c own W (.Compare a [.Eq] [b] pos) (bCmp gEq A B) := b_cmp (op_eqD hu) (by rw [hK]; exact gEq_ok) ha hb (nomark _)
theorem b_ne (hK : X.K = c.K) (hu : X.A.units + 64 < cLine) (ha : EX X c own .p W a A) (hb : EX X c own .p W b B) : BX X c own W (.Compare a [.NotEq] [b] pos) (bCmp gNe A B) := b_cmp (op_neD hu) (by rw [hK]; exact gNe_ok) ha hb (nomark _)

/-! ## is None -/
def D.isNon : D → Bool
  | .non => true
  | _ => false
def gIs : D → D → Option D := fun d e => if e.isNon = true then some (.bl d.isNon) else none
def gIsNot : D → D → Option D := fun d e => if e.isNon = true then some (.bl (!d.isNon)) else none
theorem isNon_ok {Z H H0 : Hp} {v : V} {d : D} (r : Res .p c.K c.f H0 Z H v d) : decide (v = .non) = d.isNon := by
  rcases r with r | ⟨a, o, rfl, hz, hf, ha, rc⟩
  · cases r with
    | cel _ q => cases q <;> rfl
    | _ => rfl
  · cases rc <;> rfl
theorem gIs_ok : OpG (fun x y H Q => y = .non ∧ Q (.bl (decide (x = .non))) H) m c gIs := by
  intro Z H φ x y d e z W σ Q w rx ry hg h
  obtain ⟨hs, rfl⟩ := ifs hg
  have := isNon_ok ry
  rw [hs] at this
  refine ⟨of_decide_eq_true this, ?_⟩
  rw [isNon_ok rx]
  exact h.nowB w
theorem gIsNot_ok : OpG (fun x y H Q => y = .non ∧ Q (.bl (!decide (x = .non))) H) m c gIsNot := by
  intro Z H φ x y d e z W σ Q w rx ry hg h
  obtain ⟨hs, rfl⟩ := ifs hg
  have := isNon_ok ry
  rw [hs] at this
  refine ⟨of_decide_eq_true this, ?_⟩
  rw [isNon_ok rx]
  exact h.nowB w
theorem x_is (ha : EX X c own .p W a A) (hb : EX X c own .p W b B) : EX X c own .o W (.Compare a [.Is] [b] pos) (eBin gIs A B) := x_cmp op_isN gIs_ok ha hb (nomark _)
theorem x_isnot (ha : EX X c own .p W a A) (hb : EX X c own .p W b B) : EX X c own .o W (.Compare a [.IsNot] [b] pos) (eBin gIsNot A B) := x_cmp op_notN gIsNot_ok ha hb (nomark _)
theorem b_is (ha : EX X c own .p W a A) (hb : EX X c own .p W b B) : BX X c own W (.Compare a [.Is] [b] pos) (bCmp gIs A B) := b_cmp op_isN gIs_ok ha hb (nomark _)
theorem b_isnot (ha : EX X c own .p W a A) (hb : EX X c own .p W b B) : BX X c own W (.Compare a [.IsNot] [b] pos) (bCmp gIsNot A B) := b_cmp op_notN gIsNot_ok ha hb (nomark _)

/-! ## in -/
def D.flatV : D → Option V
  | .non => some .non
  | .bl b => some (.bl b)
  | .int i => some (.int i)
  | .str x => some (.str x)
  | _ => none
def flatVs : List D → Option (List V)
  | [] => some []
  | d :: ds => match d.flatV, flatVs ds with
    | some v, some vs => some (v :: vs)
    | _, _ => none
theorem flatV_ok {m : Md} {Z H H0 : Hp} {x v : V} {d : D} (e : d.flatV = some v) (r : Res m c.K c.f H0 Z H x d) : x = v ∧ L2.flatV v = true := by
  cases d with
  | non => cases e; exact ⟨r.non, rfl⟩
  | bl b => cases e; exact ⟨r.bl, rfl⟩
  | int b => cases e; exact ⟨r.int, rfl⟩
  | str b => cases e; exact ⟨r.str, rfl⟩
  | _ => cases e
theorem flatVs_ok {Z : Hp} : ∀ {xs vs : List V} {ds : List D}, flatVs ds = some vs → Reps c.K c.f Z xs ds → xs = vs ∧ vs.all L2.flatV = true
  | _, _, [], e, .nil => by cases e; exact ⟨rfl, rfl⟩
  | _, _, d :: ds, e, .cons r s => by
    unfold flatVs at e
    split at e
    · rename_i v vs h1 h2
      cases e
      obtain ⟨rfl, h3⟩ := flatV_ok (m := .s) (H0 := Z) (H := Z) h1 r
      obtain ⟨rfl, h4⟩ := flatVs_ok h2 s
      exact ⟨rfl, by rw [List.all_cons, h3, h4]; rfl⟩
    · cases e
def gInT (d : D) (l : List D) : Option Bool := match d.flatV, flatVs l with
  | some v, some vs => some (inV v vs)
  | _, _ => none
theorem gInT_ok {d : D} {l : List D} {b : Bool} (h : gInT d l = some b) : ∃ v vs, d.flatV = some v ∧ flatVs l = some vs ∧ b = inV v vs := by
  unfold gInT at h
  cases e1 : d.flatV with
  | none => rw [e1] at h; cases h
  | some v =>
    cases e2 : flatVs l with
    | none => rw [e1, e2] at h; cases h
    | some vs => rw [e1, e2] at h; cases h; exact ⟨v, vs, rfl, rfl, rfl⟩
def gInB : D → D → Option Bool
  | d, .lst l => if d.shp && (D.lst l).shp then some (l.any fun z => PyData.eqv z.py d.py) else none
  | d, .tup l => gInT d l
  | .str i, .str j => some (!(Builtin.Str.occurrences j i 0 j.length 1).isEmpty)
  | _, _ => none
def gIn (neg : Bool) : D → D → Option D := fun d e => (gInB d e).map fun b => .bl (if neg then !b else b)
def rInD' (K : PySem.W.Frag) (neg : Bool) : R2 := fun x y H Q => (∃ d ds, Dp K H x d ∧ Dp K H y (.list ds) ∧ SeqAt.shaped d = true ∧ SeqAt.shaped (.list ds) = true ∧ Q (.bl (if neg then !(ds.any fun z => PyData.eqv z d) else ds.any fun z => PyData.eqv z d)) H) ∨ rIn K neg x y H Q ∨
  ∃ i j, x = .str i ∧ y = .str j ∧ Q (.bl (if neg then !(!(Builtin.Str.occurrences j i 0 j.length 1).isEmpty) else !(Builtin.Str.occurrences j i 0 j.length 1).isEmpty)) H
theorem op_inD' (hu : X.A.units + 65 < cLine) : OpR X (compareOp .In) (rInD' X.K false) := OpR.or (op_inD hu) (OpR.or op_in_seq op_in_str)
theorem op_notInD' (hu : X.A.units + 65 < cLine) : OpR X (compareOp .NotIn) (rInD' X.K true) := OpR.or (op_notInD hu) (OpR.or op_notIn_seq op_notIn_str)
theorem any_pys (e : PyData) : ∀ l : List D, (D.pys l).any (fun z => PyData.eqv z e) = l.any fun z => PyData.eqv z.py e
  | [] => rfl
  | d :: l => by rw [List.any_cons]; show ((d.py :: D.pys l).any _) = _; rw [List.any_cons, any_pys e l]
theorem gIn_ok (neg : Bool) : OpG (rInD' c.K neg) m c (gIn neg) := by
  intro Z H φ x y d e z W σ Q w rx ry hg h
  obtain ⟨b, hb, rfl⟩ := Option.map_eq_some_iff.mp hg
  cases e with
  | lst l =>
    obtain ⟨hs, rfl⟩ := ifs hb
    rw [Bool.and_eq_true] at hs
    refine .inl ⟨_, _, rx.dp w (SeqAt.canLay_of_shaped hs.1), ry.dp w (SeqAt.canLay_of_shaped hs.2), hs.1, hs.2, ?_⟩
    rw [any_pys]
    exact h.nowB w
  | tup l =>
    have hb' : gInT d l = some b := by cases d <;> exact hb
    obtain ⟨v, vs, h1, h2, rfl⟩ := gInT_ok hb'
    obtain ⟨rfl, h3⟩ := flatV_ok h1 rx
    obtain ⟨p, us, rfl, hp, q⟩ := ry.tup
    obtain ⟨rfl, h4⟩ := flatVs_ok h2 q
    exact .inr (.inl ⟨p, us, rfl, .inr (w.sqT hp), h3, h4, h.nowB w⟩)
  | str j =>
    cases d with
    | str i => cases hb; exact .inr (.inr ⟨i, j, rx.str, ry.str, h.nowB w⟩)
    | _ => cases hb
  | _ => cases d <;> cases hb
theorem x_in (hK : X.K = c.K) (hu : X.A.units + 65 < cLine) (ha : EX X c own .p W a A) (hb : EX X c own .p W b B) (hm : behindInMarks .In b = false := by rfl) : EX X c own .o W (.Compare a [.In] [b] pos) (eBin (gIn false) A B) := x_cmp (op_inD' hu) (by rw [hK]; exact gIn_ok false) ha hb hm
theorem x_notin (hK : X.K = c.K) (hu : X.A.units + 65 < cLine) (ha : EX X c own .p W a A) (hb : EX X c own .p W b B) (hm : behindInMarks .NotIn b = false := by rfl) : EX X c own .o W (.Compare a [.NotIn] [b] pos) (eBin (gIn true) A B) := x_cmp (op_notInD' hu) (by rw [hK]; exact gIn_ok true) ha hb hm
theorem b_in (hK : X.K = c.K) (hu : X.A.units + 65 < cLine) (ha : EX X c own .p W a A) (hb : EX X c own .p W b B) (hm : behindInMarks .In b = false := by rfl) : BX X c own W (.Compare a [.In] [b] pos) (bCmp (gIn false) A B) := b_cmp (op_inD' hu) (by rw [hK]; exact gIn_ok false) ha hb hm
theorem b_notin (hK : X.K = c.K) (hu : X.A.units + 65 < cLine) (ha : EX X c own .p W a A) (hb : EX X c own .p W b B) (hm : behindInMarks .NotIn b = false := by rfl) : BX X c own W (.Compare a [.NotIn] [b] pos) (bCmp (gIn true) A B) := b_cmp (op_notInD' hu) (by rw [hK]; exact gIn_ok true) ha hb hm
end
end Pf

set_option Elab.async false
set_option linter.all false
set_option maxRecDepth 100000
set_option maxHeartbeats 4000000
namespace Pf
open PySem PySem.Spec PyProof.Rows L2

/-! ## places of lists -/
theorem atI_get {α : Type} {xs : List α} {i : Int} {x : α} (h : atI xs i = some x) : ∃ j, ixN xs.length i = some j ∧ xs[j]? = some x := by
  unfold atI at h
  cases e : ixN xs.length i with
  | none => rw [e] at h; cases h
  | some j => rw [e] at h; exact ⟨j, rfl, h⟩
theorem atI_reps {K : PySem.W.Frag} {f : Addr} {Z : Hp} {vs : List V} {ds : List D} {i : Int} {x : D} (r : Reps K f Z vs ds) (h : atI ds i = some x) : ∃ y, atI vs i = some y ∧ Rep K f Z y x := by
  obtain ⟨j, h1, h2⟩ := atI_get h
  obtain ⟨y, h3, h4⟩ := r.get h2
  refine ⟨y, ?_, h4⟩
  unfold atI
  rw [r.length, h1]
  exact h3
def gIx : D → D → Option D
  | .lst l, .int i => atI l i
  | .tup l, .int i => atI l i
  | .str z, .int i => if z.length ≤ sizeLine then (atI z.cps.toList i).map (fun k => .str ⟨#[k]⟩) else none
  | _, _ => none
section
variable {X : Cx} {c : Ct} {own : List Ms} {m : Md} {W : WX} {a b : Expr} {A B : SX} {pos : Pos}
theorem gIx_ok : OpG (rIx c.K) .s c gIx := by
  intro Z H φ x y d e z W σ Q w rx ry hg h
  cases d with
  | lst l =>
    cases e with
    | int i =>
      obtain ⟨p, vs, rfl, hp, q⟩ := rx.lst w
      obtain ⟨u, hu, r⟩ := atI_reps q hg
      exact .inl ⟨p, vs, i, u, rfl, ry.int, SqL.of hp, hu, h.now w r⟩
    | _ => cases hg
  | tup l =>
    cases e with
    | int i =>
      obtain ⟨p, vs, rfl, hp, q⟩ := rx.tup
      obtain ⟨u, hu, r⟩ := atI_reps q hg
      exact .inr (.inl ⟨p, vs, i, u, rfl, ry.int, w.sqT hp, hu, h.now w r⟩)
    | _ => cases hg
  | str s =>
    cases e with
    | int i =>
      have hg' : (if s.length ≤ sizeLine then (atI s.cps.toList i).map (fun k => D.str ⟨#[k]⟩) else none) = some z := hg
      by_cases hs : s.length ≤ sizeLine
      · rw [if_pos hs] at hg'
        obtain ⟨k, hk, rfl⟩ := Option.map_eq_some_iff.mp hg'
        exact .inr (.inr ⟨s, i, k, rx.str, ry.int, hs, hk, h.nowS w⟩)
      · rw [if_neg hs] at hg'; cases hg'
    | _ => cases hg
  | _ => cases e <;> cases hg
theorem x_ix (hK : X.K = c.K) (ha : EX X c own .p W a A) (hb : EX X c own .p W b B) (hs : PlainIx b := by exact fun _ _ => rfl) : EX X c own .s W (.Subscript a b pos) (eBin gIx A B) :=
  PE.weak (pe_ix (ix_seq (X := X)) ha hb hs) fun _ _ _ h => by rw [hK]; exact bin_core gIx_ok h

/-! ## slices -/
abbrev SO := En → Fd → O (Option Int)
def PostO (c : Ct) (W : WX) (o : O (Option Int)) (σ : L2.St) (Z H : Hp) (Q : Option Int → Hp → Prop) : Prop :=
  match o with
  | .ok d φ => ∀ Z' H', Ext c.f Z H Z' H' → Wf c.K c.f Z' H' φ → Q d H'
  | .ex x l φ => ∀ cls dx Z' H', Ext c.f Z H Z' H' → Wf c.K c.f Z' H' φ → XRep c Z' H' x l cls dx → W cls dx σ H'
  | .bad => False
def tO (c : Ct) (own : List Ms) (W : WX) (A : SO) : TO := fun σ H Q => ∃ Z ρ φ, Rl c own Z ρ φ σ H ∧ PostO c W (A ρ φ) σ Z H Q
theorem PostO.shift {Z H Z1 H1 : Hp} {σ : L2.St} {o : O (Option Int)} {Q : Option Int → Hp → Prop} (e : Ext c.f Z H Z1 H1) (h : PostO c W o σ Z H Q) : PostO c W o σ Z1 H1 Q := by
  cases o with
  | ok d φ => exact fun Z' H' e' w => h Z' H' (e.trans e') w
  | ex x l φ => exact fun cls dx Z' H' e' w r => h cls dx Z' H' (e.trans e') w r
  | bad => exact h
theorem Post.bindO {m1 : Md} {Z H : Hp} {σ : L2.St} {x : O D} {k : D → Fd → O (Option Int)} {Q : Option Int → Hp → Prop} {R : VK} (h : PostO c W (x.bind k) σ Z H Q)
    (hr : ∀ d φ1 v Z1 H1, Ext c.f Z H Z1 H1 → Wf c.K c.f Z1 H1 φ1 → Res m1 c.K c.f H Z1 H1 v d → PostO c W (k d φ1) σ Z1 H1 Q → R v H1) : Post c m1 W x σ Z H R :=
  Post.bind (E := fun o Z H => PostO c W o σ Z H Q) (fun _ _ _ e h => h.shift e) (fun _ _ _ h => h) (fun h => h) h hr
theorem PostO.bindE {Z H : Hp} {σ : L2.St} {x : O (Option Int)} {k : Option Int → Fd → O D} {Q : VK} {R : Option Int → Hp → Prop} (h : Post c m W (x.bind k) σ Z H Q)
    (hr : ∀ d φ1 Z1 H1, Ext c.f Z H Z1 H1 → Wf c.K c.f Z1 H1 φ1 → Post c m W (k d φ1) σ Z1 H1 Q → R d H1) : PostO c W x σ Z H R := by
  cases x with
  | ok d φ => exact fun Z' H' e w => hr d φ Z' H' e w (Post.shift e h)
  | ex y l φ => exact h
  | bad => exact h
abbrev OX (X : Cx) (c : Ct) (own : List Ms) (W : WX) (e : Option Expr) (A : SO) : Prop := PO X e (tO c own W A)
theorem PO.weak {e : Option Expr} {t t' : TO} (h : PO X e t) (k : ∀ σ H Q, t' σ H Q → t σ H Q) : PO X e t' := ⟨fun pins s σ H Q I q => h.run pins s σ H Q I (k σ H Q q)⟩
def oNone : SO := fun _ φ => .ok none φ
def oSome (A : SX) : SO := fun ρ φ => (A ρ φ).bind fun d φ1 => match d with | .int i => .ok (some i) φ1 | _ => .bad
theorem o_none : OX X c own W none oNone := PO.weak po_none fun σ H Q ⟨Z, ρ, φ, R, h⟩ => h Z H .refl R.wf
theorem o_some (ha : EX X c own .p W a A) : OX X c own W (some a) (oSome A) := by
  refine PO.weak (po_some ha) ?_
  rintro σ H Q ⟨Z, ρ, φ, R, h⟩
  refine ⟨Z, ρ, φ, R, Post.bindO h fun d φ1 v Z1 H1 e1 w1 r1 h1 => ?_⟩
  cases d with
  | int i => exact ⟨i, r1.int, h1 Z1 H1 .refl w1⟩
  | _ => exact h1.elim
def cutD (xs : List D) (lo hi : Option Int) : List D := (xs.drop (HT.sIx xs.length 0 lo)).take (HT.sIx xs.length xs.length hi - HT.sIx xs.length 0 lo)
theorem cut_reps {K : PySem.W.Frag} {f : Addr} {Z : Hp} {vs : List V} {ds : List D} (r : Reps K f Z vs ds) (lo hi : Option Int) : Reps K f Z (cutV vs lo hi) (cutD ds lo hi) := by
  unfold cutV cutD
  rw [r.length]
  exact (r.drop _).take _
def gSl (d : D) (lo hi : Option Int) : Option D := match d with
  | .lst l => some (.lst (cutD l lo hi))
  | .str z => if z.length ≤ sizeLine then some (.str (cutS z lo hi)) else none
  | .tup l => if HT.sIx l.length 0 lo = 0 ∧ HT.sIx l.length l.length hi = l.length then none else some (.tup (cutD l lo hi))
  | _ => none
def eSl (A : SX) (L U : SO) : SX := fun ρ φ => (A ρ φ).bind fun d φ1 => (L ρ φ1).bind fun lo φ2 => (U ρ φ2).bind fun hi φ3 => ofO (gSl d lo hi) φ3
theorem x_sl (hK : X.K = c.K) {lo hi : Option Expr} {L U : SO} {p2 : Pos} (ha : EX X c own .p W a A) (hl : OX X c own W lo L) (hu : OX X c own W hi U) : EX X c own .o W (.Subscript a (.Slice lo hi none p2) pos) (eSl A L U) := by
  refine PE.weak (pe_slice (SlR.or sl_list (SlR.or sl_str sl_tup)) ha hl hu) ?_
  rintro σ H Q ⟨Z, ρ, φ, R, h⟩
  refine ⟨Z, ρ, φ, R, Post.bindE h fun d φ1 x Z1 H1 e1 w1 r1 h1 => ?_⟩
  refine ⟨Z1, ρ, φ1, R.more e1 w1, PostO.bindE h1 fun lo φ2 Z2 H2 e2 w2 h2 => ?_⟩
  refine ⟨Z2, ρ, φ2, (R.more e1 w1).more e2 w2, PostO.bindE h2 fun hi φ3 Z3 H3 e3 w3 h3 => ?_⟩
  obtain ⟨z, hz, h4⟩ := ofO_ok (E := fun o => Post c .o W o σ Z3 H3 Q) h3 fun z => z
  have r3 : Res .p c.K c.f H3 Z3 H3 x d := (r1.pmono e2).pmono e3
  cases d with
  | lst l =>
    cases hz
    obtain ⟨p, vs, rfl, hp, q⟩ := r3.lst w3
    exact .inl ⟨p, vs, rfl, SqL.of hp, h4.newO w3 (.lst (cut_reps q _ _))⟩
  | str s =>
    obtain ⟨hs, rfl⟩ := ifs hz
    exact .inr (.inl ⟨s, r3.str, hs, h4.nowS w3⟩)
  | tup l =>
    have hz' : (if HT.sIx l.length 0 lo = 0 ∧ HT.sIx l.length l.length hi = l.length then none else some (D.tup (cutD l lo hi))) = some z := hz
    by_cases hw : HT.sIx l.length 0 lo = 0 ∧ HT.sIx l.length l.length hi = l.length
    · rw [if_pos hw] at hz'; cases hz'
    · rw [if_neg hw] at hz'; cases hz'
      obtain ⟨p, vs, rfl, hp, q⟩ := r3.tup
      exact .inr (.inr ⟨p, vs, rfl, by rw [hK]; exact w3.sqT hp, by rw [q.length]; exact hw, h4.newT w3 (cut_reps q _ _)⟩)
  | _ => cases hz
def gRev : D → Option D
  | .lst l => some (.lst l.reverse)
  | _ => none
/-- xs[::-1], a list -/
theorem x_rev {k : Nat} {p1 p2 p3 : Pos} (ha : EX X c own .p W a A) : EX X c own .o W (.Subscript a (.Slice none none (some (.UnaryOp .USub (.Constant (.int 1) k p1) p2)) p3) pos) (eUn gRev A) := by
  refine PE.weak (pe_revL ha) ?_
  rintro σ H Q ⟨Z, ρ, φ, R, h⟩
  refine ⟨Z, ρ, φ, R, Post.bindE h fun d φ1 x Z1 H1 e1 w1 r1 h1 => ?_⟩
  obtain ⟨z, hz, h4⟩ := ofO_ok (E := fun o => Post c .o W o σ Z1 H1 Q) h1 fun z => z
  cases d with
  | lst l =>
    cases hz
    obtain ⟨p, vs, rfl, hp, q⟩ := (show Res .p c.K c.f H1 Z1 H1 x _ from r1).lst w1
    exact ⟨p, vs, rfl, SqL.of hp, h4.newO w1 (.lst q.rev)⟩
  | _ => cases hz

/-! ## built-in functions -/
theorem RAll.one {Z H H0 : Hp} {xs : List V} {d : D} (r : RAll .p c.K c.f H0 Z H xs [d]) : ∃ x, xs = [x] ∧ Res .p c.K c.f H0 Z H x d := by
  match xs, r with
  | [x], r => exact ⟨x, rfl, r.1⟩
  | _ :: _ :: _, r => exact r.2.elim
theorem RAll.two {Z H H0 : Hp} {xs : List V} {d e : D} (r : RAll .p c.K c.f H0 Z H xs [d, e]) : ∃ x y, xs = [x, y] ∧ Res .p c.K c.f H0 Z H x d ∧ Res .p c.K c.f H0 Z H y e := by
  match xs, r with
  | [x, y], r => exact ⟨x, y, rfl, r.1, r.2.1⟩
  | [_], r => exact r.2.elim
  | _ :: _ :: _ :: _, r => exact r.2.2.elim
def gLen : List D → Option D
  | [.lst l] => some (.int l.length)
  | [.tup l] => some (.int l.length)
  | [.str z] => if z.length ≤ sizeLine then some (.int z.length) else none
  | _ => none
theorem gLen_ok : CallG (fun xs H Q => ∃ x n, xs = [x] ∧ LenV c.K x H n ∧ Q (.int n) H) m c gLen := by
  intro Z H φ xs ds z W σ Q w r hg h
  match ds, hg, r with
  | [.lst l], hg, r =>
    cases hg
    obtain ⟨x, rfl, rr⟩ := r.one
    have r := rr
    obtain ⟨p, vs, rfl, hp, q⟩ := r.lst w
    exact ⟨_, _, rfl, .inl ⟨vs, SqL.of hp, q.length.symm⟩, h.nowI w⟩
  | [.tup l], hg, r =>
    cases hg
    obtain ⟨x, rfl, rr⟩ := r.one
    have r := rr
    obtain ⟨p, vs, rfl, hp, q⟩ := r.tup
    exact ⟨_, _, rfl, .inr ⟨vs, w.sqT hp, q.length.symm⟩, h.nowI w⟩
  | [.str s], hg, r =>
    obtain ⟨hz, rfl⟩ := ifs hg
    obtain ⟨x, rfl, rr⟩ := r.one
    have r := rr
    exact ⟨_, _, rfl, by rw [r.str]; exact ⟨hz, rfl⟩, h.nowI w⟩
def gList : List D → Option D
  | [.lst l] => some (.lst l)
  | [.tup l] => some (.lst l)
  | _ => none
theorem gList_ok : CallG (fun xs H Q => ∃ p ys, xs = [.ref p] ∧ (SqL c.K H p ys ∨ SqT c.K H p ys) ∧ ∀ l, H l = none → Q (.ref l) (upd H l (.lst ys))) .o c gList := by
  intro Z H φ xs ds z W σ Q w r hg h
  match ds, hg, r with
  | [.lst l], hg, r =>
    cases hg
    obtain ⟨x, rfl, rr⟩ := r.one
    have r := rr
    obtain ⟨p, vs, rfl, hp, q⟩ := r.lst w
    exact ⟨_, _, rfl, .inl (SqL.of hp), h.newO w (.lst q)⟩
  | [.tup l], hg, r =>
    cases hg
    obtain ⟨x, rfl, rr⟩ := r.one
    have r := rr
    obtain ⟨p, vs, rfl, hp, q⟩ := r.tup
    exact ⟨_, _, rfl, .inr (w.sqT hp), h.newO w (.lst q)⟩
def gTuple : List D → Option D
  | [.lst l] => some (.tup l)
  | [.tup l] => some (.tup l)
  | _ => none
theorem gTuple_ok : CallG (fun xs H Q => ∃ p ys, xs = [.ref p] ∧ ((SqL c.K H p ys ∧ ∀ l, H l = none → Q (.ref l) (upd H l (.tup ys))) ∨ (SqT c.K H p ys ∧ Q (.ref p) H))) m c gTuple := by
  intro Z H φ xs ds z W σ Q w r hg h
  match ds, hg, r with
  | [.lst l], hg, r =>
    cases hg
    obtain ⟨x, rfl, rr⟩ := r.one
    have r := rr
    obtain ⟨p, vs, rfl, hp, q⟩ := r.lst w
    exact ⟨_, _, rfl, .inl ⟨SqL.of hp, h.newT w q⟩⟩
  | [.tup l], hg, r =>
    cases hg
    obtain ⟨x, rfl, rr⟩ := r.one
    have r := rr
    have hf := r.flat rfl
    obtain ⟨p, vs, rfl, hp, q⟩ := r.tup
    exact ⟨_, _, rfl, .inr ⟨w.sqT hp, h.now w (Res.of_flat hf rfl)⟩⟩
def gAbs : List D → Option D
  | [.int i] => some (.int (if i < 0 then -i else i))
  | _ => none
theorem gAbs_ok : CallG (fun xs H Q => ∃ i, xs = [.int i] ∧ Q (.int (if i < 0 then -i else i)) H) m c gAbs := by
  intro Z H φ xs ds z W σ Q w r hg h
  match ds, hg, r with
  | [.int i], hg, r =>
    cases hg
    obtain ⟨x, rfl, rr⟩ := r.one
    have r := rr
    exact ⟨i, by rw [r.int], h.nowI w⟩
def b2z (b : Bool) : Int := if b then 1 else 0
def gInt : List D → Option D
  | [.int i] => some (.int i)
  | [.bl b] => some (.int (b2z b))
  | _ => none
theorem gInt_ok : CallG (fun xs H Q => (∃ i, xs = [.int i] ∧ Q (.int i) H) ∨ ∃ k, xs = [.bl k] ∧ Q (.int (if k then 1 else 0)) H) m c gInt := by
  intro Z H φ xs ds z W σ Q w r hg h
  match ds, hg, r with
  | [.int i], hg, r =>
    cases hg
    obtain ⟨x, rfl, rr⟩ := r.one
    have r := rr
    exact .inl ⟨i, by rw [r.int], h.nowI w⟩
  | [.bl b], hg, r =>
    cases hg
    obtain ⟨x, rfl, rr⟩ := r.one
    have r := rr
    exact .inr ⟨b, by rw [r.bl], h.nowI w⟩
def gMax2 : List D → Option D
  | [.int i, .int j] => some (.int (if j > i then j else i))
  | _ => none
def gMin2 : List D → Option D
  | [.int i, .int j] => some (.int (if j < i then j else i))
  | _ => none
theorem gMax2_ok : CallG (fun xs H Q => ∃ i j, xs = [.int i, .int j] ∧ Q (.int (if j > i then j else i)) H) m c gMax2 := by
  intro Z H φ xs ds z W σ Q w r hg h
  match ds, hg, r with
  | [.int i, .int j], hg, r =>
    cases hg
    obtain ⟨x, y, rfl, rr, r'⟩ := r.two
    have r := rr
    exact ⟨i, j, by rw [r.int, r'.int], h.nowI w⟩
theorem gMin2_ok : CallG (fun xs H Q => ∃ i j, xs = [.int i, .int j] ∧ Q (.int (if j < i then j else i)) H) m c gMin2 := by
  intro Z H φ xs ds z W σ Q w r hg h
  match ds, hg, r with
  | [.int i, .int j], hg, r =>
    cases hg
    obtain ⟨x, y, rfl, rr, r'⟩ := r.two
    have r := rr
    exact ⟨i, j, by rw [r.int, r'.int], h.nowI w⟩
def intsOf : List D → Option (List Int)
  | [] => some []
  | .int i :: r => match intsOf r with | some l => some (i :: l) | none => none
  | _ => none
def blsOf : List D → Option (List Bool)
  | [] => some []
  | .bl i :: r => match blsOf r with | some l => some (i :: l) | none => none
  | _ => none
theorem intsOf_inv : ∀ {ds : List D} {ns : List Int}, intsOf ds = some ns → ds = ns.map D.int
  | [], ns, h => by cases h; rfl
  | .int i :: r, ns, h => by
    cases e : intsOf r with
    | none => rw [intsOf, e] at h; cases h
    | some l => rw [intsOf, e] at h; cases h; rw [intsOf_inv e]; rfl
  | .non :: _, _, h => by cases h
  | .bl _ :: _, _, h => by cases h
  | .str _ :: _, _, h => by cases h
  | .lst _ :: _, _, h => by cases h
  | .tup _ :: _, _, h => by cases h
  | .dk _ :: _, _, h => by cases h
  | .dt _ :: _, _, h => by cases h
  | .feed :: _, _, h => by cases h
  | .exn _ _ :: _, _, h => by cases h
  | .fnv _ :: _, _, h => by cases h
theorem intsOf_map : ∀ ns : List Int, intsOf (ns.map D.int) = some ns
  | [] => rfl
  | n :: r => by rw [List.map_cons, intsOf, intsOf_map r]
theorem blsOf_inv : ∀ {ds : List D} {ns : List Bool}, blsOf ds = some ns → ds = ns.map D.bl
  | [], ns, h => by cases h; rfl
  | .bl i :: r, ns, h => by
    cases e : blsOf r with
    | none => rw [blsOf, e] at h; cases h
    | some l => rw [blsOf, e] at h; cases h; rw [blsOf_inv e]; rfl
  | .non :: _, _, h => by cases h
  | .int _ :: _, _, h => by cases h
  | .str _ :: _, _, h => by cases h
  | .lst _ :: _, _, h => by cases h
  | .tup _ :: _, _, h => by cases h
  | .dk _ :: _, _, h => by cases h
  | .dt _ :: _, _, h => by cases h
  | .feed :: _, _, h => by cases h
  | .exn _ _ :: _, _, h => by cases h
  | .fnv _ :: _, _, h => by cases h
theorem blsOf_map : ∀ ns : List Bool, blsOf (ns.map D.bl) = some ns
  | [] => rfl
  | n :: r => by rw [List.map_cons, blsOf, blsOf_map r]
theorem Reps.bls_inv {K : PySem.W.Frag} {f : Addr} {Z : Hp} : ∀ {v : List V} {ns : List Bool}, Reps K f Z v (ns.map D.bl) → v = ns.map V.bl
  | _, [], h => by cases h; rfl
  | _, n :: r, h => by
    cases h with
    | cons a b =>
      cases a with
      | bl => rw [Reps.bls_inv b]; rfl
      | cel _ q => cases q
def gSum : List D → Option D
  | [.lst l] => (intsOf l).map fun ns => .int ns.sum
  | _ => none
theorem ints_arg {Z H : Hp} {φ : Fd} {x : V} {l : List D} {ns : List Int} (w : Wf c.K c.f Z H φ) (r : Res .p c.K c.f H Z H x (.lst l)) (e : intsOf l = some ns) : ∃ p, x = .ref p ∧ SqL c.K H p (ns.map V.int) := by
  obtain ⟨p, vs, rfl, hp, q⟩ := r.lst w
  rw [intsOf_inv e] at q
  rw [q.ints_inv] at hp
  exact ⟨p, rfl, SqL.of hp⟩
theorem bls_arg {Z H : Hp} {φ : Fd} {x : V} {l : List D} {ns : List Bool} (w : Wf c.K c.f Z H φ) (r : Res .p c.K c.f H Z H x (.lst l)) (e : blsOf l = some ns) : ∃ p, x = .ref p ∧ SqL c.K H p (ns.map V.bl) := by
  obtain ⟨p, vs, rfl, hp, q⟩ := r.lst w
  rw [blsOf_inv e] at q
  rw [q.bls_inv] at hp
  exact ⟨p, rfl, SqL.of hp⟩
theorem gSum_ok : CallG (rSum c.K) m c gSum := by
  intro Z H φ xs ds z W σ Q w r hg h
  match ds, hg, r with
  | [.lst l], hg, r =>
    obtain ⟨ns, e, rfl⟩ := Option.map_eq_some_iff.mp hg
    obtain ⟨x, rfl, rr⟩ := r.one
    have r := rr
    obtain ⟨p, rfl, hp⟩ := ints_arg w r e
    exact ⟨p, ns, rfl, hp, h.nowI w⟩
def gAny : List D → Option D
  | [.lst l] => (blsOf l).map fun ns => .bl (ns.any id)
  | _ => none
def gAll : List D → Option D
  | [.lst l] => (blsOf l).map fun ns => .bl (ns.all id)
  | _ => none
theorem gAny_ok : CallG (rAny c.K) m c gAny := by
  intro Z H φ xs ds z W σ Q w r hg h
  match ds, hg, r with
  | [.lst l], hg, r =>
    obtain ⟨ns, e, rfl⟩ := Option.map_eq_some_iff.mp hg
    obtain ⟨x, rfl, rr⟩ := r.one
    have r := rr
    obtain ⟨p, rfl, hp⟩ := bls_arg w r e
    exact ⟨p, ns, rfl, hp, h.nowB w⟩
theorem gAll_ok : CallG (rAll c.K) m c gAll := by
  intro Z H φ xs ds z W σ Q w r hg h
  match ds, hg, r with
  | [.lst l], hg, r =>
    obtain ⟨ns, e, rfl⟩ := Option.map_eq_some_iff.mp hg
    obtain ⟨x, rfl, rr⟩ := r.one
    have r := rr
    obtain ⟨p, rfl, hp⟩ := bls_arg w r e
    exact ⟨p, ns, rfl, hp, h.nowB w⟩
/-! max, min of a list -/
def maxL : List Int → Option Int
  | [] => none
  | x :: r => some (r.foldl (fun a b => if b > a then b else a) x)
def minL : List Int → Option Int
  | [] => none
  | x :: r => some (r.foldl (fun a b => if b < a then b else a) x)
theorem foldmax : ∀ (r : List Int) (x : Int), (r.foldl (fun a b => if b > a then b else a) x ∈ x :: r) ∧ ∀ y ∈ x :: r, y ≤ r.foldl (fun a b => if b > a then b else a) x
  | [], x => ⟨List.mem_cons_self, fun y h => by rw [List.mem_singleton.mp h]; exact Int.le_refl _⟩
  | b :: r, x => by
    obtain ⟨h1, h2⟩ := foldmax r (if b > x then b else x)
    rw [List.foldl_cons]
    refine ⟨?_, fun y hy => ?_⟩
    · rcases List.mem_cons.mp h1 with e | e
      · rw [e]; split
        · exact List.mem_cons_of_mem _ List.mem_cons_self
        · exact List.mem_cons_self
      · exact List.mem_cons_of_mem _ (List.mem_cons_of_mem _ e)
    · have h3 := h2 _ List.mem_cons_self
      rcases List.mem_cons.mp hy with rfl | hy
      · refine Int.le_trans ?_ h3; split <;> omega
      · rcases List.mem_cons.mp hy with rfl | hy
        · refine Int.le_trans ?_ h3; split <;> omega
        · exact h2 y (List.mem_cons_of_mem _ hy)
theorem foldmin : ∀ (r : List Int) (x : Int), (r.foldl (fun a b => if b < a then b else a) x ∈ x :: r) ∧ ∀ y ∈ x :: r, r.foldl (fun a b => if b < a then b else a) x ≤ y
  | [], x => ⟨List.mem_cons_self, fun y h => by rw [List.mem_singleton.mp h]; exact Int.le_refl _⟩
  | b :: r, x => by
    obtain ⟨h1, h2⟩ := foldmin r (if b < x then b else x)
    rw [List.foldl_cons]
    refine ⟨?_, fun y hy => ?_⟩
    · rcases List.mem_cons.mp h1 with e | e
      · rw [e]; split
        · exact List.mem_cons_of_mem _ List.mem_cons_self
        · exact List.mem_cons_self
      · exact List.mem_cons_of_mem _ (List.mem_cons_of_mem _ e)
    · have h3 := h2 _ List.mem_cons_self
      rcases List.mem_cons.mp hy with rfl | hy
      · refine Int.le_trans h3 ?_; split <;> omega
      · rcases List.mem_cons.mp hy with rfl | hy
        · refine Int.le_trans h3 ?_; split <;> omega
        · exact h2 y (List.mem_cons_of_mem _ hy)
theorem maxL_iff {ns : List Int} {k : Int} (e : maxL ns = some k) {j : Int} (h1 : j ∈ ns) (h2 : ∀ y, y ∈ ns → y ≤ j) : j = k := by
  cases ns with
  | nil => cases e
  | cons x r =>
    cases e
    obtain ⟨q1, q2⟩ := foldmax r x
    exact Int.le_antisymm (q2 j h1) (h2 _ q1)
theorem minL_iff {ns : List Int} {k : Int} (e : minL ns = some k) {j : Int} (h1 : j ∈ ns) (h2 : ∀ y, y ∈ ns → j ≤ y) : j = k := by
  cases ns with
  | nil => cases e
  | cons x r =>
    cases e
    obtain ⟨q1, q2⟩ := foldmin r x
    exact Int.le_antisymm (h2 _ q1) (q2 j h1)
theorem maxL_pos {ns : List Int} {k : Int} (e : maxL ns = some k) : 0 < ns.length := by
  cases ns with
  | nil => cases e
  | cons x r => simp
theorem minL_pos {ns : List Int} {k : Int} (e : minL ns = some k) : 0 < ns.length := by
  cases ns with
  | nil => cases e
  | cons x r => simp
def gMax1 : List D → Option D
  | [.lst l] => (intsOf l).bind fun ns => (maxL ns).map D.int
  | _ => none
def gMin1 : List D → Option D
  | [.lst l] => (intsOf l).bind fun ns => (minL ns).map D.int
  | _ => none
theorem gMax1_ok : CallG (rMax c.K) m c gMax1 := by
  intro Z H φ xs ds z W σ Q w r hg h
  match ds, hg, r with
  | [.lst l], hg, r =>
    obtain ⟨ns, e, hg⟩ := Option.bind_eq_some_iff.mp hg
    obtain ⟨k, ek, rfl⟩ := Option.map_eq_some_iff.mp hg
    obtain ⟨x, rfl, rr⟩ := r.one
    have r := rr
    obtain ⟨p, rfl, hp⟩ := ints_arg w r e
    exact ⟨p, ns, rfl, hp, maxL_pos ek, fun j h1 h2 => by rw [maxL_iff ek h1 h2]; exact h.nowI w⟩
theorem gMin1_ok : CallG (rMin c.K) m c gMin1 := by
  intro Z H φ xs ds z W σ Q w r hg h
  match ds, hg, r with
  | [.lst l], hg, r =>
    obtain ⟨ns, e, hg⟩ := Option.bind_eq_some_iff.mp hg
    obtain ⟨k, ek, rfl⟩ := Option.map_eq_some_iff.mp hg
    obtain ⟨x, rfl, rr⟩ := r.one
    have r := rr
    obtain ⟨p, rfl, hp⟩ := ints_arg w r e
    exact ⟨p, ns, rfl, hp, minL_pos ek, fun j h1 h2 => by rw [minL_iff ek h1 h2]; exact h.nowI w⟩
/-! isinstance with a built-in class -/
def D.tn : D → Option String
  | .non => some "NoneType"
  | .bl _ => some "bool"
  | .int _ => some "int"
  | .str _ => some "str"
  | .lst _ => some "list"
  | .tup _ => some "tuple"
  | .dk _ => some "dict"
  | .dt _ => some "dict"
  | _ => none
def tyB (t T : String) : Bool := (t == T) || (t == "bool" && T == "int")
def gIsi (T : String) (d : D) : Option D := d.tn.map fun t => .bl (tyB t T)
/-- what isinstance says of a class's name -/
def IsiOk (T : String) : Prop := ∀ t ∈ ["NoneType", "bool", "int", "str", "list", "tuple", "dict"], kitB t T = some (tyB t T)
theorem tyX_ok {Z H : Hp} {φ : Fd} {x : V} {d : D} {t : String} (w : Wf c.K c.f Z H φ) (r : Res .p c.K c.f H Z H x d) (e : d.tn = some t) : TyX c.K H x (.type t) ∧ t ∈ ["NoneType", "bool", "int", "str", "list", "tuple", "dict"] := by
  cases d with
  | non => cases e; rw [r.non]; exact ⟨.base .non, by decide⟩
  | bl b => cases e; rw [r.bl]; exact ⟨.base (.bl _), by decide⟩
  | int b => cases e; rw [r.int]; exact ⟨.base (.int _), by decide⟩
  | str b => cases e; rw [r.str]; exact ⟨.base (.str _), by decide⟩
  | lst l => cases e; obtain ⟨p, vs, rfl, hp, q⟩ := r.lst w; exact ⟨.base (.lst hp), by decide⟩
  | tup l =>
    cases e
    obtain ⟨p, vs, rfl, hp, q⟩ := r.tup
    refine ⟨?_, by decide⟩
    rcases w.sqT hp with (h | ⟨o, h⟩) | ⟨o, its, n, h1, h2, _⟩
    · exact .base (.tup h)
    · exact .fTuple h
    · exact .kTuple h1 h2
  | dk l => cases e; obtain ⟨p, vs, rfl, hp, q⟩ := r.dk w; exact ⟨.base (.dK hp), by decide⟩
  | dt l => cases e; obtain ⟨p, vs, rfl, hp, q⟩ := r.dt w; exact ⟨.base (.dT hp), by decide⟩
  | feed => cases e
  | exn _ _ => cases e
  | fnv _ => cases e
  | kz _ => cases e
  | dz _ => cases e
theorem x_isi {T : String} {x2 : Str} {p p2 : Pos} (hT : IsiOk T) (hK : X.K = c.K) (ha : EX X c own .p W a A) (hm : X.mg "isinstance" = none) (hm2 : X.mg x2 = none) (hv2 : bootBuiltins x2 = some (.type T)) (hg2 : Gl X x2 := by rfl) (hn2 : x2 ≠ "__name__" := by decide) (hd2 : (x2 == ("__debug__" : Str)) = false := by decide)
    (hg : Gl X "isinstance" := by rfl)
    (he : starEach (a :: [.Name x2 p2]) X.env = (false, eval a X.env) :: starEach [.Name x2 p2] X.env := by rfl) (hpl : (backTo pos (starEach [.Name x2 p2] X.env)).any (·.1) = false := by rfl) (he2 : starEach [Expr.Name x2 p2] X.env = (false, eval (.Name x2 p2) X.env) :: starEach [] X.env := by rfl) :
    EX X c own m W (.Call (.Name "isinstance" p) [a, .Name x2 p2] [] pos) (eUn (gIsi T) A) := by
  refine PE.weak (pe_callB call_isi hg hm (by decide +kernel) (pa_cons ha (pa_cons (pe_bltn (v := .ty T) hg2 hm2 hv2 rfl hn2 hd2) pa_nil he2) he) (by decide) (by decide) he hpl) ?_
  rintro σ H Q ⟨Z, ρ, φ, R, h⟩
  refine ⟨Z, ρ, φ, R, Post.bindE h fun d φ1 v Z1 H1 e1 w1 r1 h1 => ?_⟩
  obtain ⟨z, hz, h4⟩ := ofO_ok (E := fun o => Post c m W o σ Z1 H1 Q) h1 fun z => z
  obtain ⟨t, ht, rfl⟩ := Option.map_eq_some_iff.mp hz
  obtain ⟨ty, mem⟩ := tyX_ok w1 r1 ht
  exact ⟨v, .ty T, .type t, .type T, _, rfl, .ty T, by rw [hK]; exact ty, kit_ty (hT t mem), h4.nowB w1⟩
theorem isi_int : IsiOk "int" := by unfold IsiOk; decide +kernel
theorem isi_bool : IsiOk "bool" := by unfold IsiOk; decide +kernel
theorem isi_list : IsiOk "list" := by unfold IsiOk; decide +kernel
theorem isi_tuple : IsiOk "tuple" := by unfold IsiOk; decide +kernel
theorem isi_str : IsiOk "str" := by unfold IsiOk; decide +kernel
end
end Pf

set_option Elab.async false
set_option linter.all false
set_option maxRecDepth 100000
set_option maxHeartbeats 4000000
namespace Pf
open PySem PySem.Spec PyProof.Rows L2
theorem passN {X : Cx} : Passes (L2N.CX X.prog X.w) X E0 := fun _ _ _ _ _ _ _ h => by
  obtain ⟨_, _, _, _, _, _, _, _, _, _, _, _, z⟩ := h
  exact z.elim

/-! ## calls of the text's own defs -/
/-- how arguments come in: true: to be looked at; false: frozen -/
abbrev Wm (q : Bool) : Md := if q = true then .p else .s
def RArgs (K : PySem.W.Frag) (f : Addr) (Z H : Hp) : List Bool → List V → List D → Prop
  | [], [], [] => True
  | b :: bs, v :: vs, d :: ds => Res (Wm b) K f H Z H v d ∧ RArgs K f Z H bs vs ds
  | _, _, _ => False
theorem RArgs.lens {K : PySem.W.Frag} {f : Addr} {Z H : Hp} : ∀ {bs : List Bool} {vs : List V} {ds : List D}, RArgs K f Z H bs vs ds → vs.length = bs.length ∧ ds.length = bs.length
  | [], [], [], _ => ⟨rfl, rfl⟩
  | b :: bs, v :: vs, d :: ds, h => by
    obtain ⟨h1, h2⟩ := RArgs.lens h.2
    exact ⟨by rw [List.length_cons, List.length_cons, h1], by rw [List.length_cons, List.length_cons, h2]⟩
theorem RArgs.at_ {K : PySem.W.Frag} {f : Addr} {Z H : Hp} : ∀ {bs : List Bool} {vs : List V} {ds : List D} {i : Nat} {d : D}, RArgs K f Z H bs vs ds → ds[i]? = some d → ∃ b v, bs[i]? = some b ∧ vs[i]? = some v ∧ Res (Wm b) K f H Z H v d
  | [], [], [], i, d, _, e => by simp at e
  | b :: bs, v :: vs, d :: ds, 0, x, h, e => by simp at e; subst e; exact ⟨b, v, rfl, rfl, h.1⟩
  | b :: bs, v :: vs, d :: ds, i + 1, x, h, e => by
    obtain ⟨b', v', h1, h2, h3⟩ := RArgs.at_ (i := i) (d := x) h.2 (by simpa using e)
    exact ⟨b', v', by simpa using h1, by simpa using h2, h3⟩
theorem Res.wm {K : PySem.W.Frag} {f : Addr} {H0 Z H Z' H' H1 : Hp} {b : Bool} {v : V} {d : D} (e : Ext f Z H Z' H') (r : Res (Wm b) K f H0 Z H v d) : Res (Wm b) K f H1 Z' H' v d := by
  cases b with
  | false => exact Rep.mono e.z r
  | true => exact Res.pmono r e
theorem RArgs.mono {K : PySem.W.Frag} {f : Addr} {Z H Z' H' : Hp} (e : Ext f Z H Z' H') : ∀ {bs : List Bool} {vs : List V} {ds : List D}, RArgs K f Z H bs vs ds → RArgs K f Z' H' bs vs ds
  | [], [], [], _ => trivial
  | _ :: _, _ :: _, _ :: _, h => ⟨h.1.wm e, RArgs.mono e h.2⟩
def PostM (c : Ct) (pm : List Bool) (W : WX) (o : O (List D)) (σ : L2.St) (Z H : Hp) (Q : List V → Hp → Prop) : Prop :=
  match o with
  | .ok d φ => ∀ v Z' H', Ext c.f Z H Z' H' → Wf c.K c.f Z' H' φ → RArgs c.K c.f Z' H' pm v d → Q v H'
  | .ex x l φ => ∀ cls dx Z' H', Ext c.f Z H Z' H' → Wf c.K c.f Z' H' φ → XRep c Z' H' x l cls dx → W cls dx σ H'
  | .bad => False
def tM (c : Ct) (own : List Ms) (pm : List Bool) (W : WX) (A : SA) : TA := fun σ H Q => ∃ Z ρ φ, Rl c own Z ρ φ σ H ∧ PostM c pm W (A ρ φ) σ Z H Q
abbrev AXM (X : Cx) (c : Ct) (own : List Ms) (pm : List Bool) (W : WX) (es : List Expr) (A : SA) : Prop := PA X es (tM c own pm W A)
section
variable {X : Cx} {c : Ct} {own : List Ms} {W : WX} {σ : L2.St} {Z H Z1 H1 : Hp} {pm : List Bool}
theorem PostM.shift {o : O (List D)} {Q : List V → Hp → Prop} (e : Ext c.f Z H Z1 H1) (h : PostM c pm W o σ Z H Q) : PostM c pm W o σ Z1 H1 Q := by
  cases o with
  | ok d φ => exact fun v Z' H' e2 => h v Z' H' (e.trans e2)
  | ex x l φ => exact fun cls dx Z' H' e2 => h cls dx Z' H' (e.trans e2)
  | bad => exact h
theorem Post.bindM {m1 : Md} {x : O D} {k : D → Fd → O (List D)} {Q : List V → Hp → Prop} {R : VK} (h : PostM c pm W (x.bind k) σ Z H Q)
    (hr : ∀ d φ1 v Z1 H1, Ext c.f Z H Z1 H1 → Wf c.K c.f Z1 H1 φ1 → Res m1 c.K c.f H Z1 H1 v d → PostM c pm W (k d φ1) σ Z1 H1 Q → R v H1) : Post c m1 W x σ Z H R :=
  Post.bind (E := fun o Z H => PostM c pm W o σ Z H Q) (fun _ _ _ e h => h.shift e) (fun _ _ _ h => h) (fun h => h) h hr
theorem PostM.bindM {pm1 : List Bool} {x : O (List D)} {k : List D → Fd → O (List D)} {Q R : List V → Hp → Prop} (h : PostM c pm W (x.bind k) σ Z H Q)
    (hr : ∀ d φ1 v Z1 H1, Ext c.f Z H Z1 H1 → Wf c.K c.f Z1 H1 φ1 → RArgs c.K c.f Z1 H1 pm1 v d → PostM c pm W (k d φ1) σ Z1 H1 Q → R v H1) : PostM c pm1 W x σ Z H R := by
  cases x with
  | ok d φ => exact fun v Z' H' e w r => hr d φ v Z' H' e w r (PostM.shift e h)
  | ex y l φ => exact h
  | bad => exact h
theorem PostM.bindE {m : Md} {pm1 : List Bool} {x : O (List D)} {k : List D → Fd → O D} {Q : VK} {R : List V → Hp → Prop} (h : Post c m W (x.bind k) σ Z H Q)
    (hr : ∀ d φ1 v Z1 H1, Ext c.f Z H Z1 H1 → Wf c.K c.f Z1 H1 φ1 → RArgs c.K c.f Z1 H1 pm1 v d → Post c m W (k d φ1) σ Z1 H1 Q → R v H1) : PostM c pm1 W x σ Z H R := by
  cases x with
  | ok d φ => exact fun v Z' H' e w r => hr d φ v Z' H' e w r (Post.shift e h)
  | ex y l φ => exact h
  | bad => exact h
theorem m_nil : AXM X c own [] W [] aNil := PA.weak pa_nil fun σ H Q ⟨Z, ρ, φ, R, h⟩ => h [] Z H .refl R.wf trivial
theorem m_cons {b : Bool} {e : Expr} {es : List Expr} {A : SX} {B : SA} (ha : EX X c own (Wm b) W e A) (hb : AXM X c own pm W es B) (hs : starEach (e :: es) X.env = (false, eval e X.env) :: starEach es X.env := by rfl) : AXM X c own (b :: pm) W (e :: es) (aCons A B) := by
  refine PA.weak (pa_cons ha hb hs) ?_
  rintro σ H Q ⟨Z, ρ, φ, R, h⟩
  refine ⟨Z, ρ, φ, R, Post.bindM h fun d φ1 x Z1 H1 e1 w1 r1 h1 => ?_⟩
  refine ⟨Z1, ρ, φ1, R.more e1 w1, PostM.bindM h1 fun ds φ2 xs Z2 H2 e2 w2 r2 h2 => ?_⟩
  exact h2 (x :: xs) Z2 H2 .refl w2 ⟨r1.wm e2, r2⟩
theorem m_s {e : Expr} {es : List Expr} {A : SX} {B : SA} (ha : EX X c own .s W e A) (hb : AXM X c own pm W es B) (hs : starEach (e :: es) X.env = (false, eval e X.env) :: starEach es X.env := by rfl) : AXM X c own (false :: pm) W (e :: es) (aCons A B) := m_cons (b := false) ha hb hs
theorem m_p {e : Expr} {es : List Expr} {A : SX} {B : SA} (ha : EX X c own .p W e A) (hb : AXM X c own pm W es B) (hs : starEach (e :: es) X.env = (false, eval e X.env) :: starEach es X.env := by rfl) : AXM X c own (true :: pm) W (e :: es) (aCons A B) := m_cons (b := true) ha hb hs
end
/-- a def's promise by what it does; pm: how its arguments come in -/
def spF (cls : Str → Option (Addr × List Str)) (K : PySem.W.Frag) (pm : List Bool) (m : Md) (F : Fn) : Sp := fun vs H Q E => ∃ (f : Addr) (Z : Hp) (ds : List D) (φ : Fd), Wf K f Z H φ ∧ RArgs K f Z H pm vs ds ∧
  match F ds φ with
  | .ok d φ' => ∀ v Z' H', Ext f Z H Z' H' → Wf K f Z' H' φ' → Res m K f H Z' H' v d → Q v H'
  | .ex x l φ' => ∀ cl dx Z' H', Ext f Z H Z' H' → Wf K f Z' H' φ' → XRep ⟨K, f, Z, H, cls, [], []⟩ Z' H' x l cl dx → E cl dx H'
  | .bad => False
/-- the def x of the text, callable at level k -/
structure Cal (P : Program) (w : World) (K : PySem.W.Frag) (mg : Str → Option Value) (base : Heap) (cls : Str → Option (Addr × List Str)) (x : Str) (k : Nat) (pm : List Bool) (m : Md) (F : Fn) : Prop where
  ex : ∃ (f : Addr) (fd : FuncData) (ps : List Str), mg x = some (.ref f) ∧ PySem.W.keepIn K (.ref f) = true ∧ Binds K fd ps [] ∧ FnOk P w K mg base (L2N.CX P w) k f fd ps (spF cls K pm m F)
theorem Cal.mono {P : Program} {w : World} {K : PySem.W.Frag} {mg : Str → Option Value} {base : Heap} {cls : Str → Option (Addr × List Str)} {x : Str} {k j : Nat} {pm : List Bool} {m : Md} {F : Fn} (C : Cal P w K mg base cls x k pm m F) (h : k ≤ j) : Cal P w K mg base cls x j pm m F := by
  obtain ⟨f, fd, ps, h1, h2, h3, h4⟩ := C.ex
  exact ⟨f, fd, ps, h1, h2, h3, h4.mono h⟩
def eCall (F : Fn) (A : SA) : SX := fun ρ φ => (A ρ φ).bind F
def eCall0 (F : Fn) : SX := fun _ φ => match F [] φ with
  | .ok d φ' => .ok d φ'
  | _ => .bad
section
variable {X : Cx} {c : Ct} {own : List Ms} {m : Md} {W : WX} {pos p : Pos} {x : Str} {k : Nat} {pm : List Bool} {F : Fn}
theorem x_call {e : Expr} {es : List Expr} {A : SA} (hK : X.K = c.K) (C : Cal X.prog X.w X.K X.mg X.base c.cls x k pm m F) (hr : Room k X.A) (tk : L2N.Takes X W) (ha : AXM X c own pm W (e :: es) A)
    (hg : Gl X x := by rfl) (hdb : (x == ("__debug__" : Str)) = false := by decide)
    (he : starEach (e :: es) X.env = (false, eval e X.env) :: starEach es X.env := by rfl) (hpl : (backTo pos (starEach es X.env)).any (·.1) = false := by rfl) : EX X c own m W (.Call (.Name x p) (e :: es) [] pos) (eCall F A) := by
  obtain ⟨f, fd, ps, h1, h2, h3, h4⟩ := C.ex
  refine PE.weak (pe_callS h4 hr hg h1 h2 h3 (fun σ => L2N.passAt tk σ) ha hdb he hpl) ?_
  rintro σ H Q ⟨Z, ρ, φ, R, h⟩
  refine ⟨Z, ρ, φ, R, PostM.bindE h fun ds φ1 xs Z1 H1 e1 w1 r1 h2 => ?_⟩
  refine ⟨c.f, Z1, ds, φ1, by rw [hK]; exact w1, by rw [hK]; exact r1, ?_⟩
  rw [hK]
  cases hF : F ds φ1 with
  | ok d φ2 => rw [hF] at h2; exact h2
  | ex y l φ2 => rw [hF] at h2; exact h2
  | bad => rw [hF] at h2; exact h2.elim
theorem x_call0 (hK : X.K = c.K) (C : Cal X.prog X.w X.K X.mg X.base c.cls x k [] m F) (hr : Room k X.A) (hg : Gl X x := by rfl) (hdb : (x == ("__debug__" : Str)) = false := by decide) : EX X c own m W (.Call (.Name x p) [] [] pos) (eCall0 F) := by
  obtain ⟨f, fd, ps, h1, h2, h3, h4⟩ := C.ex
  refine PE.weak (pe_call0 h4 hr hg h1 h2 h3 .nil passN hdb) ?_
  rintro σ H Q ⟨Z, ρ, φ, R, h⟩
  show spF c.cls X.K [] m F [] H Q E0
  refine ⟨c.f, Z, [], φ, by rw [hK]; exact R.wf, trivial, ?_⟩
  rw [hK]
  unfold eCall0 at h
  cases hF : F [] φ with
  | ok d φ2 => rw [hF] at h; exact h
  | ex y l φ2 => rw [hF] at h; exact h.elim
  | bad => rw [hF] at h; exact h.elim
end

/-! ## statements -/
inductive R where
  | nx (ρ : En) (φ : Fd) | rt (d : D) (φ : Fd) | bk (ρ : En) (φ : Fd) | ct (ρ : En) (φ : Fd) | ex (x : Str) (l : List D) (ρ : En) (φ : Fd) | bad
abbrev SS := En → Fd → R
/-- how a statement's own-list fares: lp: at break and continue; on: behind it. ox: which own-lists an exception may find -/
structure Ow where
  m : Md
  W : WX
  ox : List Ms → Prop
  lp : List Ms
def Sub (Z Z' : Hp) : Prop := ∀ a o, Z a = some o → Z' a = some o
theorem Sub.refl {Z : Hp} : Sub Z Z := fun _ _ h => h
theorem Sub.trans {Z Z1 Z2 : Hp} (a : Sub Z Z1) (b : Sub Z1 Z2) : Sub Z Z2 := fun x o h => b x o (a x o h)
def PostS (c : Ct) (w : Ow) (on : List Ms) (r : R) (Dn : Ends) (Z0 : Hp) : Prop :=
  match r with
  | .nx ρ φ => ∀ σ Z H, Sub Z0 Z → Rl c on Z ρ φ σ H → Dn.nx σ H
  | .rt d φ => ∀ v Z H, Ext c.f c.Z c.H Z H → Wf c.K c.f Z H φ → Res w.m c.K c.f c.H Z H v d → Dn.rt v H
  | .bk ρ φ => ∀ σ Z H, Sub Z0 Z → Rl c w.lp Z ρ φ σ H → Dn.bk σ H
  | .ct ρ φ => ∀ σ Z H, Sub Z0 Z → Rl c w.lp Z ρ φ σ H → Dn.ct σ H
  | .ex x l ρ φ => ∀ cls dx σ Z H ow, w.ox ow → Rl c ow Z ρ φ σ H → XRep c Z H x l cls dx → w.W cls dx σ H
  | .bad => False
def tS (c : Ct) (w : Ow) (own on : List Ms) (B : SS) : TS := fun Dn σ H => ∃ Z ρ φ, Rl c own Z ρ φ σ H ∧ PostS c w on (B ρ φ) Dn Z
theorem PostS.shift {c : Ct} {w : Ow} {on : List Ms} {r : R} {Dn : Ends} {Z0 Z1 : Hp} (h : PostS c w on r Dn Z0) (k : Sub Z0 Z1) : PostS c w on r Dn Z1 := by
  cases r with
  | nx ρ φ => exact fun σ Z H q => h σ Z H (k.trans q)
  | rt d φ => exact h
  | bk ρ φ => exact fun σ Z H q => h σ Z H (k.trans q)
  | ct ρ φ => exact fun σ Z H q => h σ Z H (k.trans q)
  | ex x l ρ φ => exact h
  | bad => exact h
abbrev SJ (X : Cx) (c : Ct) (w : Ow) (own on : List Ms) (st : Stmt) (B : SS) : Prop := PS X st (tS c w own on B)
abbrev SJs (X : Cx) (c : Ct) (w : Ow) (own on : List Ms) (st : List Stmt) (B : SS) : Prop := PSs X st (tS c w own on B)

/-- an outcome of an expression goes on as a statement's -/
def O.toR {α : Type} (o : O α) (ρ : En) (k : α → Fd → R) : R :=
  match o with
  | .ok a φ => k a φ
  | .ex x l φ => .ex x l ρ φ
  | .bad => .bad
section
variable {c : Ct} {w : Ow} {own on : List Ms} {m : Md} {Z H : Hp} {ρ : En} {φ : Fd} {σ : L2.St} {Dn : Ends}
theorem Post.toS {o : O D} {k : D → Fd → R} {Q : VK} (hx : w.ox own) (R0 : Rl c own Z ρ φ σ H) (h : PostS c w on (o.toR ρ k) Dn Z)
    (hk : ∀ d φ' v Z' H', Ext c.f Z H Z' H' → Wf c.K c.f Z' H' φ' → Res m c.K c.f H Z' H' v d → PostS c w on (k d φ') Dn Z' → Q v H') : Post c m w.W o σ Z H Q := by
  cases o with
  | ok d φ' => exact fun v Z' H' e w' r => hk d φ' v Z' H' e w' r (h.shift e.z)
  | ex x l φ' => exact fun cls dx Z' H' e w' r => h cls dx σ Z' H' own hx (R0.more e w') r
  | bad => exact h
theorem PostB.toS {o : O Bool} {k : Bool → Fd → R} {Q : Bool → Hp → Prop} (hx : w.ox own) (R0 : Rl c own Z ρ φ σ H) (h : PostS c w on (o.toR ρ k) Dn Z)
    (hk : ∀ d φ' Z' H', Ext c.f Z H Z' H' → Wf c.K c.f Z' H' φ' → PostS c w on (k d φ') Dn Z' → Q d H') : PostB c w.W o σ Z H Q := by
  cases o with
  | ok d φ' => exact fun Z' H' e w' => hk d φ' Z' H' e w' (h.shift e.z)
  | ex x l φ' => exact fun cls dx Z' H' e w' r => h cls dx σ Z' H' own hx (R0.more e w') r
  | bad => exact h
theorem PostA.toS {o : O (List D)} {k : List D → Fd → R} {Q : List V → Hp → Prop} (hx : w.ox own) (R0 : Rl c own Z ρ φ σ H) (h : PostS c w on (o.toR ρ k) Dn Z)
    (hk : ∀ d φ' v Z' H', Ext c.f Z H Z' H' → Wf c.K c.f Z' H' φ' → RAll m c.K c.f H Z' H' v d → PostS c w on (k d φ') Dn Z' → Q v H') : PostA c m w.W o σ Z H Q := by
  cases o with
  | ok d φ' => exact fun v Z' H' e w' r => hk d φ' v Z' H' e w' r (h.shift e.z)
  | ex x l φ' => exact fun cls dx Z' H' e w' r => h cls dx σ Z' H' own hx (R0.more e w') r
  | bad => exact h
end

/-! ### the slots -/
theorem get_set {α : Type} {l : List α} {i j : Nat} {x y : α} (h : (l.set i x)[j]? = some y) : (j = i ∧ y = x) ∨ (j ≠ i ∧ l[j]? = some y) := by
  by_cases e : j = i
  · subst e
    rw [List.getElem?_set] at h
    simp only [if_true] at h
    split at h
    · cases h; exact .inl ⟨rfl, rfl⟩
    · cases h
  · rw [List.getElem?_set_ne (Ne.symm e)] at h
    exact .inr ⟨e, h⟩
section
variable {c : Ct} {own : List Ms} {Z H Z' H' : Hp} {ρ : En} {φ φ' : Fd} {σ : L2.St} {i : Nat} {d : D} {v : V}
theorem Rl.pnSet {m : Ms} {x : Option D} {y : Option V} (R : Rl c own Z ρ φ σ H) (hm : m ≠ .p ∧ m ≠ .r := by decide) : ∀ (j : Nat) (d : D), (ρ.set i x)[j]? = some (some d) → (own.set i m)[j]? = some .p ∨ (own.set i m)[j]? = some .r → c.r0[j]? = some (some d) ∧ (σ.set i y)[j]? = c.s0[j]? := by
  intro j d h1 h2
  have hj : j ≠ i := fun e => by
    subst e
    rcases h2 with h2 | h2 <;> rcases get_set h2 with ⟨_, q⟩ | ⟨q, _⟩ <;> first | exact q rfl | exact hm.1 q.symm | exact hm.2 q.symm
  rw [List.getElem?_set_ne (Ne.symm hj)] at h1 h2 ⊢
  exact R.pn j d h1 h2
theorem Rl.pkSet {m : Ms} {x : Option D} {y : Option V} (R : Rl c own Z ρ φ σ H) (hm : m ≠ .p ∧ m ≠ .r := by decide) : ∀ (j : Nat) (d : D), (ρ.set i x)[j]? = some (some d) → (own.set i m)[j]? = some .p → ∃ v, (σ.set i y)[j]? = some (some v) ∧ Res .p c.K c.f c.H c.Z c.H v d := by
  intro j d h1 h2
  have hj : j ≠ i := fun e => by
    subst e
    rcases get_set h2 with ⟨_, q⟩ | ⟨q, _⟩
    · exact hm.1 q.symm
    · exact q rfl
  rw [List.getElem?_set_ne (Ne.symm hj)] at h1 h2 ⊢
  exact R.pk j d h1 h2
/-- a name is bound to frozen data -/
theorem Rl.setS (R : Rl c own Z ρ φ σ H) (r : Rep c.K c.f Z v d) : Rl c (own.set i .s) Z (ρ.set i (some d)) φ (σ.set i (some v)) H := by
  refine ⟨R.wf, R.ext, by simpa using R.len, fun j e h1 h2 h3 => ?_, fun j e h1 h2 => ?_, fun j k a e e' hjk h1 h2 h3 h4 h5 h6 h7 h8 => ?_, R.pnSet, R.pkSet⟩
  · rcases get_set h1 with ⟨rfl, q⟩ | ⟨hj, q⟩
    · cases q
      have hl : j < σ.length := by
        rw [R.len]
        have := (List.getElem?_eq_some_iff.mp h1).1
        simpa using this
      exact ⟨v, List.getElem?_set_self hl, r⟩
    · rw [List.getElem?_set_ne (Ne.symm hj)]
      exact R.sh j e q (by rwa [List.getElem?_set_ne (Ne.symm hj)] at h2) (by rwa [List.getElem?_set_ne (Ne.symm hj)] at h3)
  · rcases get_set h2 with ⟨rfl, q⟩ | ⟨hj, q⟩
    · cases q
    · rw [List.getElem?_set_ne (Ne.symm hj)] at h1 ⊢
      exact R.ow j e h1 q
  · rcases get_set h1 with ⟨rfl, q⟩ | ⟨hj, q⟩
    · cases q
    · rcases get_set h2 with ⟨rfl, q'⟩ | ⟨hk, q'⟩
      · cases q'
      · rw [List.getElem?_set_ne (Ne.symm hj)] at h3 h7
        rw [List.getElem?_set_ne (Ne.symm hk)] at h5 h8
        exact R.ne j k a e e' hjk q q' h3 h4 h5 h6 h7 h8
/-- a name is bound to something fresh: H0, the heap at the statement's start -/
theorem Rl.setO {Z0 H0 : Hp} {φ0 : Fd} (R0 : Rl c own Z0 ρ φ0 σ H0) (e : Ext c.f Z0 H0 Z H) (w : Wf c.K c.f Z H φ) (hi : i < own.length) (r : Res .o c.K c.f H0 Z H v d) : Rl c (own.set i .o) Z (ρ.set i (some d)) φ (σ.set i (some v)) H := by
  have R := R0.more e w
  have kH : ∀ a, c.H a ≠ none → H0 a ≠ none := R0.ext.k
  -- an own cell of another name is older than the new one
  have apart : ∀ (k : Nat) (a : Addr) (e' : D), k ≠ i → own[k]? = some .o → ρ[k]? = some (some e') → e'.mt = true → σ[k]? = some (some (.ref a)) → d.mt = true → v = .ref a → False := by
    intro k a e' hk h1 h2 h3 h4 hd hv
    obtain ⟨u, hu, ru⟩ := R0.ow k e' h2 h1
    rw [h4] at hu
    cases hu
    unfold Res at ru r
    rw [if_pos h3] at ru
    rw [if_pos hd] at r
    obtain ⟨b, o, eb, _, _, _, hb, _⟩ := ru
    obtain ⟨b', o', eb', hn, _⟩ := r
    rw [hv] at eb'
    cases eb
    cases eb'
    rw [hb] at hn
    cases hn
  refine ⟨w, R.ext, by simpa using R.len, fun j e' h1 h2 h3 => ?_, fun j e' h1 h2 => ?_, fun j k a e' e'' hjk h1 h2 h3 h4 h5 h6 h7 h8 => ?_, R.pnSet, R.pkSet⟩
  · rcases get_set h1 with ⟨rfl, q⟩ | ⟨hj, q⟩
    · exact absurd (List.getElem?_set_self hi) h2
    · rw [List.getElem?_set_ne (Ne.symm hj)]
      exact R.sh j e' q (by rwa [List.getElem?_set_ne (Ne.symm hj)] at h2) (by rwa [List.getElem?_set_ne (Ne.symm hj)] at h3)
  · rcases get_set h1 with ⟨rfl, q⟩ | ⟨hj, q⟩
    · cases q
      have hl : j < σ.length := by
        rw [R.len]
        have := (List.getElem?_eq_some_iff.mp h1).1
        simpa using this
      exact ⟨v, List.getElem?_set_self hl, r.start kH⟩
    · rw [List.getElem?_set_ne (Ne.symm hj)] at h2 ⊢
      exact R.ow j e' q h2
  · rcases get_set h3 with ⟨rfl, q⟩ | ⟨hj, q⟩
    · cases q
      have hk : k ≠ j := Ne.symm hjk
      rw [List.getElem?_set_ne (Ne.symm hk)] at h2 h5 h8
      rcases get_set h7 with ⟨_, q7⟩ | ⟨hh, _⟩
      · cases q7
        exact apart k a e'' hk h2 h5 h6 h8 h4 rfl
      · exact hh rfl
    · rw [List.getElem?_set_ne (Ne.symm hj)] at h1 h7
      rcases get_set h5 with ⟨rfl, q'⟩ | ⟨hk, q'⟩
      · cases q'
        rcases get_set h8 with ⟨_, q8⟩ | ⟨hh, _⟩
        · cases q8
          exact apart j a e' hj h1 q h4 h7 h6 rfl
        · exact hh rfl
      · rw [List.getElem?_set_ne (Ne.symm hk)] at h2 h8
        exact R.ne j k a e' e'' hjk h1 h2 q h4 q' h6 h7 h8
/-- an own cell is written -/
theorem Rl.write (R : Rl c own Z ρ φ σ H) {a : Addr} {d' : D} {o' : HO} (ho : own[i]? = some .o) (hd : ρ[i]? = some (some d)) (hm : d.mt = true) (ha : σ[i]? = some (some (.ref a))) (rc : RepC c.K c.f Z o' d') :
    Rl c own Z (ρ.set i (some d')) φ σ (upd H a o') := by
  obtain ⟨u, hu, ru⟩ := R.ow i d hd ho
  rw [ha] at hu
  cases hu
  unfold Res at ru
  rw [if_pos hm] at ru
  obtain ⟨b, o, eb, hn, hz, hf, hH, _⟩ := ru
  cases eb
  have up : ∀ b u, b ≠ a → H b = some u → upd H a o' b = some u := fun b u hb q => by rw [upd_ne hb]; exact q
  have hm' : d'.mt = true := by cases rc <;> rfl
  have zne : ∀ b u, Z b = some u → b ≠ a := fun b u q e => by rw [e, hz] at q; cases q
  refine ⟨⟨fun b u q => up b u (zne b u q) (R.wf.sub b u q), R.wf.zf, ?_, R.wf.ok, R.wf.tt.upd rc.nt⟩, ⟨R.ext.z, fun b u hb q => ?_, fun b q => ?_, R.ext.n, R.ext.d.trans (.same (upd_ne (Ne.symm hf)))⟩, by simpa using R.len, fun j e h1 h2 h3 => ?_, fun j e h1 h2 => ?_, fun j k b e e' hjk h1 h2 h3 h4 h5 h6 h7 h8 => ?_, fun j e h1 h2 => ?_, fun j e h1 h2 => ?_⟩
  · obtain ⟨s, h1, h2⟩ := R.wf.feed
    exact ⟨s, h1, up _ _ (Ne.symm hf) h2⟩
  · exact up b u (fun e => by rw [e, hn] at q; cases q) (R.ext.h b u hb q)
  · by_cases e : b = a
    · rw [e, upd_same]; simp
    · rw [upd_ne e]; exact R.ext.k b q
  · rcases get_set h1 with ⟨rfl, q⟩ | ⟨hj, q⟩
    · exact absurd ho h2
    · exact R.sh j e q h2 h3
  · rcases get_set h1 with ⟨rfl, q⟩ | ⟨hj, q⟩
    · cases q
      refine ⟨_, ha, ?_⟩
      unfold Res
      rw [if_pos hm']
      exact ⟨a, o', rfl, hn, hz, hf, upd_same, rc⟩
    · obtain ⟨u, hu, ru⟩ := R.ow j e q h2
      refine ⟨u, hu, ?_⟩
      by_cases me : e.mt = true
      · unfold Res at ru ⊢
        rw [if_pos me] at ru ⊢
        obtain ⟨b, o2, rfl, h3, h4, h5, h6, h7⟩ := ru
        exact ⟨b, o2, rfl, h3, h4, h5, up b o2 (fun z => R.ne j i b e d hj h2 ho q me hd hm hu (by rw [z]; exact ha)) h6, h7⟩
      · unfold Res at ru ⊢
        rw [if_neg me] at ru ⊢
        exact ru
  · have fx : ∀ (j : Nat) (e : D), (ρ.set i (some d'))[j]? = some (some e) → e.mt = true → ∃ e', ρ[j]? = some (some e') ∧ e'.mt = true := fun j e q me => by
      rcases get_set q with ⟨rfl, q⟩ | ⟨_, q⟩
      · exact ⟨d, hd, hm⟩
      · exact ⟨e, q, me⟩
    obtain ⟨f1, g1, k1⟩ := fx j e h3 h4
    obtain ⟨f2, g2, k2⟩ := fx k e' h5 h6
    exact R.ne j k b f1 f2 hjk h1 h2 g1 k1 g2 k2 h7 h8
  · rcases get_set h1 with ⟨rfl, q⟩ | ⟨hj, q⟩
    · rcases h2 with h2 | h2 <;> rw [ho] at h2 <;> cases h2
    · exact R.pn j e q h2
  · rcases get_set h1 with ⟨rfl, q⟩ | ⟨hj, q⟩
    · rw [ho] at h2; cases h2
    · exact R.pk j e q h2
/-- a name's cell is frozen -/
theorem Rl.frz (R : Rl c own Z ρ φ σ H) (i : Nat) (hp : own[i]? ≠ some .p) : ∃ Z', Sub Z Z' ∧ Rl c (own.set i .s) Z' ρ φ σ H := by
  -- the others, from a frozen part that grew by this cell at most
  have core : ∀ Z' : Hp, Ext c.f Z H Z' H → Wf c.K c.f Z' H φ → (∀ d, ρ[i]? = some (some d) → own[i]? = some .o → ∃ v, σ[i]? = some (some v) ∧ Rep c.K c.f Z' v d) →
      (∀ (j : Nat) (d : D) (a : Addr), j ≠ i → ρ[j]? = some (some d) → own[j]? = some .o → d.mt = true → σ[j]? = some (some (.ref a)) → Z a = none → Z' a = none) → Rl c (own.set i .s) Z' ρ φ σ H := by
    intro Z' e w hs hk
    have ext : Ext c.f c.Z c.H Z' H := ⟨fun b u q => e.z b u (R.ext.z b u q), R.ext.h, R.ext.k, fun b q1 q2 => e.n b (R.ext.k b q1) (R.ext.n b q1 q2), R.ext.d⟩
    refine ⟨w, ext, R.len, fun j d h1 h2 h3 => ?_, fun j d h1 h2 => ?_, fun j k a d d' hjk h1 h2 => ?_, fun j d h1 h2 => ?_, fun j d h1 h2 => ?_⟩
    · by_cases hj : j = i
      · subst hj
        by_cases ho : own[j]? = some .o
        · exact hs d h1 ho
        · obtain ⟨v, h3, h4⟩ := R.sh j d h1 ho hp
          exact ⟨v, h3, h4.mono e.z⟩
      · rw [List.getElem?_set_ne (Ne.symm hj)] at h2 h3
        obtain ⟨v, h3, h4⟩ := R.sh j d h1 h2 h3
        exact ⟨v, h3, h4.mono e.z⟩
    · rcases get_set h2 with ⟨rfl, q⟩ | ⟨hj, q⟩
      · cases q
      · obtain ⟨v, h3, h4⟩ := R.ow j d h1 q
        refine ⟨v, h3, ?_⟩
        by_cases me : d.mt = true
        · unfold Res at h4 ⊢
          rw [if_pos me] at h4 ⊢
          obtain ⟨a, o, rfl, g1, g2, g3, g4, g5⟩ := h4
          exact ⟨a, o, rfl, g1, hk j d a hj h1 q me h3 g2, g3, g4, g5.mono e.z⟩
        · unfold Res at h4 ⊢
          rw [if_neg me] at h4 ⊢
          exact h4.mono e.z
    · have unset : ∀ j, (own.set i Ms.s)[j]? = some Ms.o → own[j]? = some Ms.o := fun j q => by
        rcases get_set q with ⟨rfl, q'⟩ | ⟨_, q'⟩
        · cases q'
        · exact q'
      exact R.ne j k a d d' hjk (unset j h1) (unset k h2)
    · refine R.pn j d h1 ?_
      rcases h2 with h2 | h2 <;> rcases get_set h2 with ⟨_, q⟩ | ⟨_, q⟩ <;> first | exact .inl q | exact .inr q | cases q
    · refine R.pk j d h1 ?_
      rcases get_set h2 with ⟨_, q⟩ | ⟨_, q⟩
      · cases q
      · exact q
  by_cases hh : ∃ d, ρ[i]? = some (some d) ∧ own[i]? = some .o ∧ d.mt = true
  · obtain ⟨d, h1, h2, h3⟩ := hh
    obtain ⟨v, hv, r⟩ := R.ow i d h1 h2
    unfold Res at r
    rw [if_pos h3] at r
    obtain ⟨a, o, rfl, hn, hz, hf, ha, rc⟩ := r
    have up : ∀ b u, Z b = some u → upd Z a o b = some u := fun b u q => by rw [upd_ne (ne_of_none q hz)]; exact q
    refine ⟨upd Z a o, up, ?_⟩
    -- as core, but the entry's own new cells: a is no object of the entry
    have w' : Wf c.K c.f (upd Z a o) H φ := by
      refine ⟨fun b u q => ?_, ?_, ?_, R.wf.ok, R.wf.tt.updZ hz⟩
      · by_cases hb : b = a
        · subst hb; rw [upd_same] at q; cases q; exact ha
        · rw [upd_ne hb] at q; exact R.wf.sub b u q
      · rw [upd_ne (Ne.symm hf)]; exact R.wf.zf
      · obtain ⟨s, g1, g2⟩ := R.wf.feed
        exact ⟨s, g1.mono up, g2⟩
    have ext : Ext c.f c.Z c.H (upd Z a o) H := ⟨fun b u q => up b u (R.ext.z b u q), R.ext.h, R.ext.k, fun b q1 q2 => by
      have hb : b ≠ a := fun e => q1 (by rw [e]; exact hn)
      rw [upd_ne hb]
      exact R.ext.n b q1 q2, R.ext.d⟩
    refine ⟨w', ext, R.len, fun j e h4 h5 h6 => ?_, fun j e h4 h5 => ?_, fun j k b e e' hjk h4 h5 => ?_, fun j d h1 h2 => ?_, fun j d h1 h2 => ?_⟩
    · by_cases hj : j = i
      · subst hj
        rw [h1] at h4; cases h4
        exact ⟨_, hv, .cel upd_same (rc.mono up)⟩
      · rw [List.getElem?_set_ne (Ne.symm hj)] at h5 h6
        obtain ⟨v, g1, g2⟩ := R.sh j e h4 h5 h6
        exact ⟨v, g1, g2.mono up⟩
    · rcases get_set h5 with ⟨rfl, q⟩ | ⟨hj, q⟩
      · cases q
      · obtain ⟨v, g1, g2⟩ := R.ow j e h4 q
        refine ⟨v, g1, ?_⟩
        by_cases me : e.mt = true
        · unfold Res at g2 ⊢
          rw [if_pos me] at g2 ⊢
          obtain ⟨b, o2, rfl, k1, k2, k3, k4, k5⟩ := g2
          refine ⟨b, o2, rfl, k1, ?_, k3, k4, k5.mono up⟩
          rw [upd_ne (fun z => R.ne j i b e d hj q h2 h4 me h1 h3 g1 (by rw [z]; exact hv))]
          exact k2
        · unfold Res at g2 ⊢
          rw [if_neg me] at g2 ⊢
          exact g2.mono up
    · have unset : ∀ j, (own.set i Ms.s)[j]? = some Ms.o → own[j]? = some Ms.o := fun j q => by
        rcases get_set q with ⟨rfl, q'⟩ | ⟨_, q'⟩
        · cases q'
        · exact q'
      exact R.ne j k b e e' hjk (unset j h4) (unset k h5)
    · refine R.pn j d h1 ?_
      rcases h2 with h2 | h2 <;> rcases get_set h2 with ⟨_, q⟩ | ⟨_, q⟩ <;> first | exact .inl q | exact .inr q | cases q
    · refine R.pk j d h1 ?_
      rcases get_set h2 with ⟨_, q⟩ | ⟨_, q⟩
      · cases q
      · exact q
  · refine ⟨Z, Sub.refl, core Z ⟨fun _ _ q => q, fun _ _ _ q => q, fun _ q => q, fun _ _ q => q, .refl⟩ R.wf (fun d h1 h2 => ?_) fun _ _ _ _ _ _ _ _ q => q⟩
    obtain ⟨v, hv, r⟩ := R.ow i d h1 h2
    have hm : d.mt = false := by
      cases e : d.mt with
      | false => rfl
      | true => exact absurd ⟨d, h1, h2, e⟩ hh
    exact ⟨v, hv, r.flat hm⟩
theorem Rl.frzs (R : Rl c own Z ρ φ σ H) : ∀ is : List Nat, (∀ i ∈ is, own[i]? ≠ some .p) → ∃ Z', Sub Z Z' ∧ Rl c (is.foldr (fun i o => o.set i .s) own) Z' ρ φ σ H
  | [], _ => ⟨Z, Sub.refl, R⟩
  | i :: is, hp => by
    obtain ⟨Z1, k1, R1⟩ := R.frzs is fun j hj => hp j (List.mem_cons_of_mem _ hj)
    have hp1 : (is.foldr (fun i o => o.set i .s) own)[i]? ≠ some .p := by
      have h0 := hp i List.mem_cons_self
      clear k1 R1 hp
      induction is with
      | nil => exact h0
      | cons k is ih =>
        intro q
        rcases get_set (show ((is.foldr (fun i o => o.set i .s) own).set k .s)[i]? = some .p from q) with ⟨_, q⟩ | ⟨_, q⟩
        · cases q
        · exact ih q
    obtain ⟨Z2, k2, R2⟩ := R1.frz i hp1
    exact ⟨Z2, k1.trans k2, R2⟩
end
end Pf

set_option Elab.async false
set_option linter.all false
set_option maxRecDepth 100000
set_option maxHeartbeats 4000000
namespace Pf
open PySem PySem.Spec PyProof.Rows L2

/-! ## targets -/
abbrev Tg := D → En → Option En
/-- the slots outside is stand -/
def Agr (is : List Nat) (σ σ' : L2.St) : Prop := σ'.length = σ.length ∧ ∀ j, j ∉ is → σ'[j]? = σ[j]?
theorem Agr.refl {is : List Nat} {σ : L2.St} : Agr is σ σ := ⟨rfl, fun _ _ => rfl⟩
theorem Agr.trans {is js ks : List Nat} {σ σ1 σ2 : L2.St} (a : Agr is σ σ1) (b : Agr js σ1 σ2) (h1 : ∀ j ∈ is, j ∈ ks) (h2 : ∀ j ∈ js, j ∈ ks) : Agr ks σ σ2 :=
  ⟨b.1.trans a.1, fun j hj => (b.2 j fun z => hj (h2 j z)).trans (a.2 j fun z => hj (h1 j z))⟩
theorem wipe_in {σ : L2.St} : ∀ {vs : List Nat} {i : Nat}, i ∈ vs → i < σ.length → (wipe σ vs)[i]? = some none
  | v :: vs, i, h, hi => by
    show ((wipe σ vs).set v none)[i]? = some none
    by_cases e : i = v
    · subst e
      exact List.getElem?_set_self (by rw [wipe_length]; exact hi)
    · rw [List.getElem?_set_ne (Ne.symm e)]
      exact wipe_in ((List.mem_cons.mp h).resolve_left e) hi
theorem Agr.wipe {is vs : List Nat} {σ σ' : L2.St} (a : Agr is σ σ') (h : ∀ j ∈ is, j ∈ vs) : wipe σ' vs = wipe σ vs := by
  refine List.ext_getElem? fun i => ?_
  by_cases hi : i ∈ vs
  · by_cases hl : i < σ.length
    · rw [wipe_in hi hl, wipe_in hi (by rw [a.1]; exact hl)]
    · rw [List.getElem?_eq_none (by rw [wipe_length, a.1]; omega), List.getElem?_eq_none (by rw [wipe_length]; omega)]
  · rw [wipe_out hi, wipe_out hi]
    exact a.2 i fun z => hi (h i z)
def tT (c : Ct) (own on : List Ms) (is : List Nat) (T : Tg) : TG := fun v σ H Q => ∃ Z ρ φ d ρ', Rl c own Z ρ φ σ H ∧ Rep c.K c.f Z v d ∧ T d ρ = some ρ' ∧ ∀ σ', (∀ Z2 H2 φ2, Sub Z Z2 → Rl c own Z2 ρ φ2 σ H2 → Rl c on Z2 ρ' φ2 σ' H2) → Agr is σ σ' → Q σ' H
abbrev TJ (X : Cx) (c : Ct) (own on : List Ms) (is : List Nat) (tg : Expr) (T : Tg) : Prop := PG X tg (tT c own on is T)
abbrev Tgs := List D → En → Option En
def tTs (c : Ct) (own on : List Ms) (is : List Nat) (T : Tgs) : TGs := fun vs σ H Q => ∃ Z ρ φ ds ρ', Rl c own Z ρ φ σ H ∧ Reps c.K c.f Z vs ds ∧ T ds ρ = some ρ' ∧ ∀ σ', (∀ Z2 H2 φ2, Sub Z Z2 → Rl c own Z2 ρ φ2 σ H2 → Rl c on Z2 ρ' φ2 σ' H2) → Agr is σ σ' → Q σ' H
abbrev TJs (X : Cx) (c : Ct) (own on : List Ms) (is : List Nat) (ts : List Expr) (T : Tgs) : Prop := PGs X ts (tTs c own on is T)
theorem PG.weak {X : Cx} {tg : Expr} {t t' : TG} (h : PG X tg t) (k : ∀ v σ H Q, t' v σ H Q → t v σ H Q) : PG X tg t' := ⟨fun pins s σ H v u Q I r q => h.run pins s σ H v u Q I r (k v σ H Q q)⟩
theorem PGs.weak {X : Cx} {tg : List Expr} {t t' : TGs} (h : PGs X tg t) (k : ∀ v σ H Q, t' v σ H Q → t v σ H Q) : PGs X tg t' := ⟨fun pins s σ H v u Q I r q => h.run pins s σ H v u Q I r (k v σ H Q q)⟩
def tgN (i : Nat) : Tg := fun d ρ => some (ρ.set i (some d))
def tsNil : Tgs := fun ds ρ => match ds with | [] => some ρ | _ => none
def tsCons (T : Tg) (U : Tgs) : Tgs := fun ds ρ => match ds with | d :: r => (T d ρ).bind fun ρ1 => U r ρ1 | [] => none
def tgT (n : Nat) (T : Tgs) : Tg := fun d ρ => match d with
  | .tup ds => if ds.length = n then T ds ρ else none
  | _ => none
section
variable {X : Cx} {c : Ct} {own on o1 : List Ms} {m : Md} {W : WX} {pos : Pos}
theorem g_name (i : Nat) {x : Str} (hN : X.N.Nodup) (hi : X.N[i]? = some x := by rfl) (hx : Loc X.env.scope x := by first | exact Or.inl rfl | exact Or.inr rfl) (hf : X.fn x = true ∨ X.env.scope.names.lookup x = some .local := by first | exact .inl rfl | exact .inr rfl) :
    TJ X c own (own.set i .s) [i] (.Name x pos) (tgN i) := by
  refine PG.weak (pg_name hN hi hx hf) ?_
  rintro v σ H Q ⟨Z, ρ, φ, d, ρ', R0, r, e, q⟩
  cases e
  exact q _ (fun Z2 H2 φ2 k R' => R'.setS (r.mono k)) ⟨by simp, fun j hj => List.getElem?_set_ne (by simpa using Ne.symm (by simpa using hj : j ≠ i))⟩
theorem gs_nil : TJs X c own own [] [] tsNil := by
  refine PGs.weak pgs_nil ?_
  rintro v σ H Q ⟨Z, ρ, φ, ds, ρ', R0, r, e, q⟩
  cases r with
  | nil => cases e; exact ⟨rfl, q σ (fun _ _ _ _ R' => R') .refl⟩
  | cons _ _ => cases e
theorem gs_cons {e : Expr} {es : List Expr} {is js : List Nat} {T : Tg} {U : Tgs} (h1 : TJ X c own o1 is e T) (h2 : TJs X c o1 on js es U)
    (hs : (assignEach (e :: es) X.env).map (·.2) = assign e X.env :: (assignEach es X.env).map (·.2) := by rfl) : TJs X c own on (is ++ js) (e :: es) (tsCons T U) := by
  refine PGs.weak (pgs_cons h1 h2 hs) ?_
  rintro vs σ H Q ⟨Z, ρ, φ, ds, ρ', R0, r, e, q⟩
  cases r with
  | nil => cases e
  | @cons v d vs ds r s =>
    obtain ⟨ρ1, e1, e2⟩ := Option.bind_eq_some_iff.mp e
    exact ⟨v, vs, rfl, Z, ρ, φ, d, ρ1, R0, r, e1, fun σ1 t1 a1 => ⟨Z, ρ1, φ, ds, ρ', t1 Z H φ Sub.refl R0, s, e2, fun σ2 t2 a2 => q σ2 (fun Z2 H2 φ2 k R' => t2 Z2 H2 φ2 k (t1 Z2 H2 φ2 k R')) (a1.trans a2 (fun j h => List.mem_append_left _ h) fun j h => List.mem_append_right _ h)⟩⟩
theorem g_tup {es : List Expr} {k : Nat} {is : List Nat} {n : Nat} {T : Tgs} (hK : X.K = c.K) (hc : X.calm = true) (h : TJs X c own on is es T)
    (hn : (assignEach es X.env).length = n := by rfl) (hst : (assignEach es X.env).findIdx? (·.1) = none := by rfl) : TJ X c own on is (.Tuple es k pos) (tgT n T) := by
  refine PG.weak (pg_tup hc h hn hst) ?_
  rintro v σ H Q ⟨Z, ρ, φ, d, ρ', R0, r, e, q⟩
  cases d with
  | tup ds =>
    obtain ⟨a, vs, rfl, ha, rs⟩ := Res.tup (m := .s) (H0 := H) (H := H) r
    have e' : (if ds.length = n then T ds ρ else none) = some ρ' := e
    by_cases hl : ds.length = n
    · rw [if_pos hl] at e'
      exact ⟨a, vs, rfl, by rw [hK]; exact R0.wf.sqT ha, by rw [rs.length]; exact hl, Z, ρ, φ, ds, ρ', R0, rs, e', q⟩
    · rw [if_neg hl] at e'; cases e'
  | _ => cases e
end

/-! ## what is walked -/
/-- what stays of the state at the start: the frozen part; where q, all the heap but the feed -/
def Kp (q : Bool) (c : Ct) (Z0 H0 Z H : Hp) : Prop := (∀ a o, Z0 a = some o → Z a = some o) ∧ (q = true → ∀ a o, a ≠ c.f → H0 a = some o → H a = some o) ∧ (∀ a o, a ≠ c.f → c.H a = some o → H a = some o)
/-- the iterator J yields ds -/
def Walk (q : Bool) (c : Ct) (J : It) (ds : List D) (Z0 H0 : Hp) : Prop := ∀ (i : Nat) (Z H : Hp) (φ : Fd), Kp q c Z0 H0 Z H → Wf c.K c.f Z H φ →
  (i = ds.length → J.stop i H) ∧ ∀ d, ds[i]? = some d → J.go i H ∧ ∀ x H', J.yld i H x H' → ∃ Z', Ext c.f Z H Z' H' ∧ Wf c.K c.f Z' H' φ ∧ Rep c.K c.f Z' x d
def tI (c : Ct) (own : List Ms) (q : Bool) (W : WX) (A : SA) : TI := fun σ H R => ∃ Z ρ φ, Rl c own Z ρ φ σ H ∧ match A ρ φ with
  | .ok ds φ' => ∀ J Z' H', Ext c.f Z H Z' H' → Wf c.K c.f Z' H' φ' → Walk q c J ds Z' H' → R J H'
  | .ex x l φ' => ∀ cls dx Z' H', Ext c.f Z H Z' H' → Wf c.K c.f Z' H' φ' → XRep c Z' H' x l cls dx → W cls dx σ H'
  | .bad => False
abbrev IJ (X : Cx) (c : Ct) (own : List Ms) (q : Bool) (W : WX) (tg e : Expr) (A : SA) : Prop := PI X tg e (tI c own q W A)
section
variable {X : Cx} {c : Ct} {own : List Ms} {q : Bool} {W : WX} {pos : Pos} {tg : Expr}
/-- a list at the start of the walk, later -/
theorem lst_at {Z0 H0 : Hp} {φ0 : Fd} {v : V} {l : List D} (w0 : Wf c.K c.f Z0 H0 φ0) (r : Res (Wm q) c.K c.f H0 Z0 H0 v (.lst l)) :
    ∃ a vs, v = .ref a ∧ H0 a = some (.lst vs) ∧ Reps c.K c.f Z0 vs l ∧ ∀ Z H φ, Kp q c Z0 H0 Z H → Wf c.K c.f Z H φ → H a = some (.lst vs) := by
  cases q with
  | false =>
    have r' : Rep c.K c.f Z0 v (.lst l) := r
    cases r' with
    | cel e rc =>
      cases rc with
      | lst rs => exact ⟨_, _, rfl, w0.sub _ _ e, rs, fun Z H φ k w => w.sub _ _ (k.1 _ _ e)⟩
  | true =>
    have r' : Res .p c.K c.f H0 Z0 H0 v (.lst l) := r
    obtain ⟨a, vs, rfl, ha, rs⟩ := r'.lst w0
    refine ⟨a, vs, rfl, ha, rs, fun Z H φ k w => k.2.1 rfl a _ ?_ ha⟩
    rintro rfl
    -- the feed is no data
    rcases r' with r' | ⟨b, o, eb, _, hf, _⟩
    · cases r' with
      | cel e _ => rw [w0.zf] at e; cases e
    · cases eb; exact hf rfl
theorem walk_list {Z0 H0 : Hp} {a : Addr} {vs : List V} {l : List D} (rs : Reps c.K c.f Z0 vs l) (h : ∀ Z H φ, Kp q c Z0 H0 Z H → Wf c.K c.f Z H φ → H a = some (.lst vs)) : Walk q c (Itl c.K a) l Z0 H0 := by
  intro i Z H φ k w
  have ha := h Z H φ k w
  refine ⟨fun e => ⟨vs, SqL.of ha, by rw [rs.length, e]; exact Nat.le_refl _⟩, fun d hd => ?_⟩
  obtain ⟨y, hy, ry⟩ := rs.get hd
  refine ⟨⟨vs, y, SqL.of ha, hy⟩, fun x H' hx => ?_⟩
  obtain ⟨rfl, hx⟩ := hx
  have := hx vs (SqL.of ha)
  rw [hy] at this
  cases this
  exact ⟨Z, .refl, w, ry.mono k.1⟩
theorem walk_tup {Z0 H0 : Hp} {a : Addr} {vs : List V} {l : List D} (rs : Reps c.K c.f Z0 vs l) (ha : SqT c.K Z0 a vs) : Walk q c (Itt c.K a) l Z0 H0 := by
  intro i Z H φ k w
  have ha := w.sqT (sqT_mono k.1 ha)
  refine ⟨fun e => ⟨vs, ha, by rw [rs.length, e]; exact Nat.le_refl _⟩, fun d hd => ?_⟩
  obtain ⟨y, hy, ry⟩ := rs.get hd
  refine ⟨⟨vs, y, ha, hy⟩, fun x H' hx => ?_⟩
  obtain ⟨rfl, hx⟩ := hx
  have := hx vs ha
  rw [hy] at this
  cases this
  exact ⟨Z, .refl, w, ry.mono k.1⟩
/-- a list, a tuple, a text -/
theorem pi_seqs {l : Expr} {tl : TE} (hl : PE X l tl) : PI X tg l (fun σ H R => tl σ H fun x H1 => (∃ a, x = .ref a ∧ (∃ xs, SqL X.K H1 a xs) ∧ R (Itl X.K a) H1) ∨ (∃ a, x = .ref a ∧ (∃ xs, SqT X.K H1 a xs) ∧ R (Itt X.K a) H1) ∨ ∃ z, x = .str z ∧ R (Its z) H1) := by
  refine ⟨fun pins s σ H R I h => ?_⟩
  refine thn (hl.run pins s σ H _ I h) fun v s1 ⟨x, H1, I1, r1, q1⟩ => ?_
  rcases q1 with ⟨a, rfl, ⟨xs, hq⟩, q⟩ | ⟨a, rfl, ⟨xs, hq⟩, q⟩ | ⟨z, rfl, q⟩
  · cases r1
    obtain ⟨its, rv, p, hz⟩ := I1.list hq
    refine wpAny_pyIter_list p.isList ⟨s1.heap.objs.size, [s1.heap.objs.size], _, _, H1, rfl, I1.kept (t' := s1.toks) fun b o e => Heap.get?_push_of_some _ e, turn_list a _, ⟨_, Heap.get?_push_size _ rfl, rfl, rfl⟩, fun b hb => ?_, q⟩
    obtain rfl : b = s1.heap.objs.size := by simpa using hb
    exact I1.fpOk (Nat.le_refl _) (I1.hok.fresh (Nat.le_refl _))
  · cases r1
    obtain ⟨its, rv, p, hz⟩ := I1.tuple hq
    refine wpAny_pyIter_tuple (show s1.heap.IsTuple a its.toArray from p) ⟨s1.heap.objs.size, [s1.heap.objs.size], _, _, H1, rfl, I1.kept (t' := s1.toks) fun b o e => Heap.get?_push_of_some _ e, turn_tuple a _, ⟨_, Heap.get?_push_size _ rfl, rfl, rfl⟩, fun b hb => ?_, q⟩
    obtain rfl : b = s1.heap.objs.size := by simpa using hb
    exact I1.fpOk (Nat.le_refl _) (I1.hok.fresh (Nat.le_refl _))
  · obtain ⟨t, rfl⟩ := r1
    cases ha : z.cps.all (· < 128)
    · exact wpAny_pyIter_wide ha (pi_one (tk := s1.toks) I1 _ (turn_str _ z t "str_iterator" (.inr rfl)) ⟨_, Heap.get?_push_size _ rfl, rfl, rfl⟩ q)
    · exact wpAny_pyIter_ascii ha (pi_one (tk := s1.toks) I1 _ (turn_str _ z t "str_ascii_iterator" (.inl rfl)) ⟨_, Heap.get?_push_size _ rfl, rfl, rfl⟩ q)
theorem walk_str {Z0 H0 : Hp} {z : Str} : Walk q c (Its z) (z.cps.toList.map fun k => D.str ⟨#[k]⟩) Z0 H0 := by
  intro i Z H φ k w
  refine ⟨fun e => ?_, fun d hd => ?_⟩
  · have e' : i = z.cps.size := by simpa using e
    rw [e']
    exact Nat.le_refl _
  · rw [List.getElem?_map] at hd
    cases e : z.cps.toList[i]? with
    | none => rw [e] at hd; cases hd
    | some k =>
      rw [e] at hd
      cases hd
      rw [Array.getElem?_toList] at e
      refine ⟨(Array.getElem?_eq_some_iff.mp e).1, fun x H' hx => ?_⟩
      obtain ⟨rfl, k', hk, rfl⟩ := hx
      rw [e] at hk
      cases hk
      exact ⟨Z, .refl, w, .str _⟩
/-- the items of a value that is walked -/
def itD : D → Option (List D)
  | .lst l => some l
  | .tup l => some l
  | .str z => some (z.cps.toList.map fun k => D.str ⟨#[k]⟩)
  | _ => none
def iSeq (A : SX) : SA := fun ρ φ => (A ρ φ).bind fun d φ1 => ofO (itD d) φ1
/-! range -/
def upTo (a : Int) : Nat → List D
  | 0 => []
  | n + 1 => .int a :: upTo (a + 1) n
theorem upTo_len : ∀ (n : Nat) (a : Int), (upTo a n).length = n
  | 0, _ => rfl
  | n + 1, a => by show (upTo (a + 1) n).length + 1 = n + 1; rw [upTo_len n]
theorem upTo_get : ∀ (n : Nat) (a : Int) (i : Nat), i < n → (upTo a n)[i]? = some (.int (a + i))
  | n + 1, a, 0, _ => by show some (D.int a) = _; rw [show a + ((0 : Nat) : Int) = a by omega]
  | n + 1, a, i + 1, h => by
    show (upTo (a + 1) n)[i]? = _
    rw [upTo_get n (a + 1) i (by omega), show a + 1 + (i : Int) = a + ((i + 1 : Nat) : Int) by omega]
theorem walk_range {Z0 H0 : Hp} {a : Int} {n : Nat} : Walk q c (Itr a n) (upTo a n) Z0 H0 := by
  intro i Z H φ k w
  refine ⟨fun e => ?_, fun d hd => ?_⟩
  · rw [upTo_len] at e; rw [e]; exact Nat.le_refl _
  · have hi : i < n := by
      have := (List.getElem?_eq_some_iff.mp hd).1
      rwa [upTo_len] at this
    rw [upTo_get n a i hi] at hd
    cases hd
    exact ⟨hi, fun x H' hx => by obtain ⟨rfl, rfl⟩ := hx; exact ⟨Z, .refl, w, .int _⟩⟩
def small62 (j : Int) : Bool := decide (-4611686018427387904 ≤ j) && decide (j < 4611686018427387904)
theorem small62_ok {j : Int} (h : small62 j = true) : -(2 ^ 62) ≤ j ∧ j < 2 ^ 62 := by
  unfold small62 at h
  simp only [Bool.and_eq_true, decide_eq_true_eq] at h
  omega
def rg1 : List D → Option (List D)
  | [.int j] => if small62 j then some (upTo 0 j.toNat) else none
  | _ => none
def rg2 : List D → Option (List D)
  | [.int i, .int j] => if small62 i && small62 j then some (upTo i (j - i).toNat) else none
  | _ => none
theorem rg1_inv {ds l : List D} (h : rg1 ds = some l) : ∃ j, ds = [.int j] ∧ small62 j = true ∧ l = upTo 0 j.toNat := by
  unfold rg1 at h
  split at h
  · obtain ⟨h1, h2⟩ := ifs h
    exact ⟨_, rfl, h1, h2.symm⟩
  · cases h
theorem rg2_inv {ds l : List D} (h : rg2 ds = some l) : ∃ i j, ds = [.int i, .int j] ∧ small62 i = true ∧ small62 j = true ∧ l = upTo i (j - i).toNat := by
  unfold rg2 at h
  split at h
  · obtain ⟨h1, h2⟩ := ifs h
    rw [Bool.and_eq_true] at h1
    exact ⟨_, _, rfl, h1.1, h1.2, h2.symm⟩
  · cases h
def iRg1 (A : SA) : SA := fun ρ φ => (A ρ φ).bind fun ds φ1 => ofO (rg1 ds) φ1
def iRg2 (A : SA) : SA := fun ρ φ => (A ρ φ).bind fun ds φ1 => ofO (rg2 ds) φ1
/-- the wish of a walk -/
def PostI (c : Ct) (q : Bool) (W : WX) (o : O (List D)) (σ : L2.St) (Z H : Hp) (R0 : It → Hp → Prop) : Prop :=
  match o with
  | .ok ds φ' => ∀ J Z' H', Ext c.f Z H Z' H' → Wf c.K c.f Z' H' φ' → Walk q c J ds Z' H' → R0 J H'
  | .ex x l φ' => ∀ cls dx Z' H', Ext c.f Z H Z' H' → Wf c.K c.f Z' H' φ' → XRep c Z' H' x l cls dx → W cls dx σ H'
  | .bad => False
theorem PostI.shift {Z H Z1 H1 : Hp} {σ : L2.St} {o : O (List D)} {R0 : It → Hp → Prop} (e : Ext c.f Z H Z1 H1) (h : PostI c q W o σ Z H R0) : PostI c q W o σ Z1 H1 R0 := by
  cases o with
  | ok d φ => exact fun J Z' H' e' w => h J Z' H' (e.trans e') w
  | ex x l φ => exact fun cls dx Z' H' e' w r => h cls dx Z' H' (e.trans e') w r
  | bad => exact h
theorem Post.bindI {m : Md} {Z H : Hp} {σ : L2.St} {x : O D} {k : D → Fd → O (List D)} {R0 : It → Hp → Prop} {Q : VK} (h : PostI c q W (x.bind k) σ Z H R0)
    (hr : ∀ d φ1 v Z1 H1, Ext c.f Z H Z1 H1 → Wf c.K c.f Z1 H1 φ1 → Res m c.K c.f H Z1 H1 v d → PostI c q W (k d φ1) σ Z1 H1 R0 → Q v H1) : Post c m W x σ Z H Q :=
  Post.bind (E := fun o Z H => PostI c q W o σ Z H R0) (fun _ _ _ e h => h.shift e) (fun _ _ _ h => h) (fun h => h) h hr
theorem PostA.bindI {m : Md} {Z H : Hp} {σ : L2.St} {x : O (List D)} {k : List D → Fd → O (List D)} {R0 : It → Hp → Prop} {Q : List V → Hp → Prop} (h : PostI c q W (x.bind k) σ Z H R0)
    (hr : ∀ d φ1 v Z1 H1, Ext c.f Z H Z1 H1 → Wf c.K c.f Z1 H1 φ1 → RAll m c.K c.f H Z1 H1 v d → PostI c q W (k d φ1) σ Z1 H1 R0 → Q v H1) : PostA c m W x σ Z H Q :=
  PostA.bind (E := fun o Z H => PostI c q W o σ Z H R0) (fun _ _ _ e h => h.shift e) (fun _ _ _ h => h) (fun h => h) h hr
theorem i_seq (hK : X.K = c.K) {a : Expr} {A : SX} (ha : EX X c own (Wm q) W a A) : IJ X c own q W tg a (iSeq A) := by
  refine PI.weak (pi_seqs ha) ?_
  rintro σ H R0 ⟨Z, ρ, φ, R, h⟩
  refine ⟨Z, ρ, φ, R, Post.bindI (R0 := R0) h fun d φ1 v Z1 H1 e1 w1 r1 h1 => ?_⟩
  have r1' : Res (Wm q) c.K c.f H1 Z1 H1 v d := r1.any (by cases q <;> decide)
  obtain ⟨l0, hl, h2⟩ := ofO_ok (E := fun o => PostI c q W o σ Z1 H1 R0) h1 fun z => z
  cases d with
  | lst l =>
    cases hl
    obtain ⟨a, vs, rfl, ha, rs, hk⟩ := lst_at w1 r1'
    exact .inl ⟨a, rfl, ⟨vs, SqL.of ha⟩, by rw [hK]; exact h2 _ Z1 H1 .refl w1 (walk_list rs hk)⟩
  | tup l =>
    cases hl
    obtain ⟨a, vs, rfl, ha, rs⟩ := r1'.tup
    exact .inr (.inl ⟨a, rfl, ⟨vs, by rw [hK]; exact w1.sqT ha⟩, by rw [hK]; exact h2 _ Z1 H1 .refl w1 (walk_tup rs ha)⟩)
  | str z =>
    cases hl
    obtain rfl := r1'.str
    exact .inr (.inr ⟨z, rfl, h2 _ Z1 H1 .refl w1 walk_str⟩)
  | _ => cases hl
/-- a loop over what stood at the start, to be looked at -/
theorem i_seqP (i : Nat) {x : Str} {p : Pos} (hK : X.K = c.K) (ho : own[i]? = some .p := by rfl) (hN : X.N[i]? = some x := by rfl) (hv : Vis X.env.scope x := by first | exact Or.inl rfl | exact Or.inr (Or.inl rfl) | exact Or.inr (Or.inr rfl)) (hd : (x == ("__debug__" : Str)) = false := by decide)
    (hcd : (x == ("__classdict__" : Str)) = false := by decide) : IJ X c own false W tg (.Name x p) (iSeq (eVar i)) := by
  refine PI.weak (pi_seqs (pe_var hN hv hd hcd)) ?_
  rintro σ H R0 ⟨Z, ρ, φ, R, h⟩
  have h' : PostI c false W (iSeq (eVar i) ρ φ) σ Z H R0 := h
  unfold iSeq at h'
  cases hE : eVar i ρ φ with
  | bad => rw [hE] at h'; exact h'.elim
  | ex y l φ' => unfold eVar at hE; split at hE <;> cases hE
  | ok d φ1 =>
    have hd' : ρ[i]? = some (some d) ∧ φ1 = φ := by
      unfold eVar at hE
      split at hE
      · rename_i d' e'; cases hE; exact ⟨e', rfl⟩
      · cases hE
    obtain ⟨hr, rfl⟩ := hd'
    rw [hE] at h'
    obtain ⟨l0, hl, h2⟩ := ofO_ok (E := fun o => PostI c false W o σ Z H R0) (show PostI c false W (ofO (itD d) φ1) σ Z H R0 from h') fun z => z
    obtain ⟨v, hv, r⟩ := R.pk i d hr ho
    refine ⟨v, hv, ?_⟩
    have r1 : Res .p c.K c.f H Z H v d := (show Res .p c.K c.f H c.Z c.H v d from r).pmono R.ext
    cases d with
    | lst l =>
      cases hl
      rcases r with r | ⟨a, o, rfl, hz, hf, ha, rc⟩
      · cases r with
        | cel e rc =>
          cases rc with
          | lst rs => exact .inl ⟨_, rfl, ⟨_, SqL.of (R.wf.sub _ _ (R.ext.z _ _ e))⟩, by rw [hK]; exact h2 _ Z H .refl R.wf (walk_list (rs.mono R.ext.z) fun Z' H' φ' k w => w.sub _ _ (k.1 _ _ (R.ext.z _ _ e)))⟩
      · cases rc with
        | lst rs => exact .inl ⟨_, rfl, ⟨_, SqL.of (R.ext.h _ _ hf ha)⟩, by rw [hK]; exact h2 _ Z H .refl R.wf (walk_list (rs.mono R.ext.z) fun Z' H' φ' k w => k.2.2 _ _ hf ha)⟩
    | tup l =>
      cases hl
      obtain ⟨a, vs, rfl, ha, rs⟩ := r1.tup
      exact .inr (.inl ⟨a, rfl, ⟨vs, by rw [hK]; exact R.wf.sqT ha⟩, by rw [hK]; exact h2 _ Z H .refl R.wf (walk_tup rs ha)⟩)
    | str z =>
      cases hl
      obtain rfl := r1.str
      exact .inr (.inr ⟨z, rfl, h2 _ Z H .refl R.wf walk_str⟩)
    | _ => cases hl
section
variable {a b : Expr} {A : SA} {p : Pos}
theorem i_range1 (hm : X.mg "range" = none) (ha : AX X c own .p W [a] A) (hg : Gl X "range" := by rfl) (hs : starEach [a] X.env = [(false, eval a X.env)] := by rfl) : IJ X c own q W tg (.Call (.Name "range" p) [a] [] pos) (iRg1 A) := by
  refine PI.weak (pi_range1 hg hm ha hs) ?_
  rintro σ H R0 ⟨Z, ρ, φ, R, h⟩
  refine ⟨Z, ρ, φ, R, PostA.bindI (R0 := R0) h fun ds φ1 xs Z1 H1 e1 w1 r1 h1 => ?_⟩
  obtain ⟨l0, hl, h2⟩ := ofO_ok (E := fun o => PostI c q W o σ Z1 H1 R0) h1 fun z => z
  obtain ⟨j, rfl, hj, rfl⟩ := rg1_inv hl
  obtain ⟨x, rfl, r2⟩ := r1.one
  obtain ⟨g1, g2⟩ := small62_ok hj
  exact ⟨j, by rw [r2.int], g1, g2, h2 _ Z1 H1 .refl w1 walk_range⟩
theorem i_range2 (hm : X.mg "range" = none) (ha : AX X c own .p W [a, b] A) (hg : Gl X "range" := by rfl) (hs : starEach [a, b] X.env = [(false, eval a X.env), (false, eval b X.env)] := by rfl) (hs2 : starEach [b] X.env = [(false, eval b X.env)] := by rfl) :
    IJ X c own q W tg (.Call (.Name "range" p) [a, b] [] pos) (iRg2 A) := by
  refine PI.weak (pi_range2 hg hm ha hs hs2) ?_
  rintro σ H R0 ⟨Z, ρ, φ, R, h⟩
  refine ⟨Z, ρ, φ, R, PostA.bindI (R0 := R0) h fun ds φ1 xs Z1 H1 e1 w1 r1 h1 => ?_⟩
  obtain ⟨l0, hl, h2⟩ := ofO_ok (E := fun o => PostI c q W o σ Z1 H1 R0) h1 fun z => z
  obtain ⟨i, j, rfl, hi, hj, rfl⟩ := rg2_inv hl
  obtain ⟨x, y, rfl, r2, r3⟩ := r1.two
  obtain ⟨g1, g2⟩ := small62_ok hi
  obtain ⟨g3, g4⟩ := small62_ok hj
  exact ⟨i, j, by rw [r2.int, r3.int], ⟨g1, g2, g3, g4⟩, h2 _ Z1 H1 .refl w1 walk_range⟩
/-! enumerate, zip -/
def enumD (i : Nat) : List D → List D
  | [] => []
  | d :: r => .tup [.int (i : Nat), d] :: enumD (i + 1) r
theorem enumD_len : ∀ (l : List D) (i : Nat), (enumD i l).length = l.length
  | [], _ => rfl
  | _ :: r, i => by show (enumD (i + 1) r).length + 1 = r.length + 1; rw [enumD_len r]
theorem enumD_get : ∀ (l : List D) (i k : Nat) (e : D), (enumD i l)[k]? = some e → ∃ d, l[k]? = some d ∧ e = .tup [.int ((i + k : Nat) : Int), d]
  | [], _, _, _, h => by cases h
  | d :: r, i, 0, e, h => by
    have h' : some (D.tup [.int (i : Nat), d]) = some e := h
    cases h'
    exact ⟨d, rfl, rfl⟩
  | d :: r, i, k + 1, e, h => by
    obtain ⟨d', h1, h2⟩ := enumD_get r (i + 1) k e h
    exact ⟨d', h1, by rw [h2, show i + 1 + k = i + (k + 1) by omega]⟩
/-- a new pair at p -/
theorem pair_new {Z H : Hp} {φ : Fd} {p : Addr} {vs : List V} {ds : List D} (w : Wf c.K c.f Z H φ) (r : Reps c.K c.f Z vs ds) (hp : H p = none) :
    ∃ Z', Ext c.f Z H Z' (upd H p (.tup vs)) ∧ Wf c.K c.f Z' (upd H p (.tup vs)) φ ∧ Rep c.K c.f Z' (.ref p) (.tup ds) := by
  have h := Post.newT (c := c) (m := .s) (W := fun _ _ _ _ => False) (σ := []) (Q := fun v H' => v = .ref p → H' = upd H p (.tup vs) → ∃ Z', Ext c.f Z H Z' H' ∧ Wf c.K c.f Z' H' φ ∧ Rep c.K c.f Z' v (.tup ds)) w r
    (fun v Z' H' e w' r' _ _ => ⟨Z', e, w', r'⟩) p hp rfl rfl
  exact h
theorem walk_enum {Z0 H0 : Hp} {a : Addr} {vs : List V} {l : List D} (rs : Reps c.K c.f Z0 vs l) (h : ∀ Z H φ, Kp q c Z0 H0 Z H → Wf c.K c.f Z H φ → H a = some (.lst vs)) : Walk q c (Ite c.K a) (enumD 0 l) Z0 H0 := by
  intro i Z H φ k w
  have ha := h Z H φ k w
  refine ⟨fun e => ⟨vs, SqL.of ha, by rw [rs.length, e, enumD_len]; exact Nat.le_refl _⟩, fun d hd => ?_⟩
  obtain ⟨d', h1, rfl⟩ := enumD_get l 0 i d hd
  obtain ⟨y, hy, ry⟩ := rs.get h1
  refine ⟨⟨vs, y, SqL.of ha, hy⟩, fun x H' hx => ?_⟩
  obtain ⟨T, u, rfl, hT, rfl, hu⟩ := hx
  have := hu vs (SqL.of ha)
  rw [hy] at this
  cases this
  refine pair_new w (.cons ?_ (.cons (ry.mono k.1) .nil)) hT
  rw [Nat.zero_add]
  exact .int _
def zipD : List D → List D → List D
  | d :: r, e :: s => .tup [d, e] :: zipD r s
  | _, _ => []
theorem zipD_len : ∀ (l k : List D), (zipD l k).length = min l.length k.length
  | [], _ => by simp [zipD]
  | _ :: _, [] => by simp [zipD]
  | _ :: r, _ :: s => by show (zipD r s).length + 1 = min (r.length + 1) (s.length + 1); rw [zipD_len r s]; omega
theorem zipD_get : ∀ (l k : List D) (i : Nat) (z : D), (zipD l k)[i]? = some z → ∃ d e, l[i]? = some d ∧ k[i]? = some e ∧ z = .tup [d, e]
  | [], _, _, _, h => by cases h
  | _ :: _, [], _, _, h => by cases h
  | d :: r, e :: s, 0, z, h => by
    have h' : some (D.tup [d, e]) = some z := h
    cases h'
    exact ⟨d, e, rfl, rfl, rfl⟩
  | d :: r, e :: s, i + 1, z, h => zipD_get r s i z h
theorem walk_zip {Z0 H0 : Hp} {a b : Addr} {vs us : List V} {l k : List D} (rs : Reps c.K c.f Z0 vs l) (h : ∀ Z H φ, Kp q c Z0 H0 Z H → Wf c.K c.f Z H φ → H a = some (.lst vs))
    (rs' : Reps c.K c.f Z0 us k) (h' : ∀ Z H φ, Kp q c Z0 H0 Z H → Wf c.K c.f Z H φ → H b = some (.lst us)) : Walk q c (Itz c.K a b) (zipD l k) Z0 H0 := by
  intro i Z H φ kp w
  have ha := h Z H φ kp w
  have hb := h' Z H φ kp w
  refine ⟨fun e => ⟨vs, us, SqL.of ha, SqL.of hb, by rw [rs.length, rs'.length, e, zipD_len]; omega⟩, fun d hd => ?_⟩
  obtain ⟨d1, d2, h1, h2, rfl⟩ := zipD_get l k i d hd
  obtain ⟨y1, hy1, ry1⟩ := rs.get h1
  obtain ⟨y2, hy2, ry2⟩ := rs'.get h2
  refine ⟨⟨vs, us, y1, y2, SqL.of ha, SqL.of hb, hy1, hy2⟩, fun x H' hx => ?_⟩
  obtain ⟨T, u1, u2, rfl, hT, rfl, hu1, hu2⟩ := hx
  have t1 := hu1 vs (SqL.of ha)
  have t2 := hu2 us (SqL.of hb)
  rw [hy1] at t1
  rw [hy2] at t2
  cases t1
  cases t2
  exact pair_new w (.cons (ry1.mono kp.1) (.cons (ry2.mono kp.1) .nil)) hT
def iEn (A : SA) : SA := fun ρ φ => (A ρ φ).bind fun ds φ1 => match ds with | [.lst l] => .ok (enumD 0 l) φ1 | _ => .bad
def iZp (A : SA) : SA := fun ρ φ => (A ρ φ).bind fun ds φ1 => match ds with | [.lst l, .lst k] => .ok (zipD l k) φ1 | _ => .bad
theorem RAll.one' {m : Md} {Z H H0 : Hp} {xs : List V} {d : D} (r : RAll m c.K c.f H0 Z H xs [d]) : ∃ x, xs = [x] ∧ Res m c.K c.f H0 Z H x d := by
  match xs, r with
  | [x], r => exact ⟨x, rfl, r.1⟩
  | _ :: _ :: _, r => exact r.2.elim
theorem RAll.two' {m : Md} {Z H H0 : Hp} {xs : List V} {d e : D} (r : RAll m c.K c.f H0 Z H xs [d, e]) : ∃ x y, xs = [x, y] ∧ Res m c.K c.f H0 Z H x d ∧ Res m c.K c.f H0 Z H y e := by
  match xs, r with
  | [x, y], r => exact ⟨x, y, rfl, r.1, r.2.1⟩
  | [_], r => exact r.2.elim
  | _ :: _ :: _ :: _, r => exact r.2.2.elim
theorem i_enum {elts : List Expr} {kk : Nat} {tpos : Pos} (hK : X.K = c.K) (hm : X.mg "enumerate" = none) (ha : AX X c own (Wm q) W [a] A) (hg : Gl X "enumerate" := by rfl) (hs : starEach [a] X.env = [(false, eval a X.env)] := by rfl) :
    IJ X c own q W (.Tuple elts kk tpos) (.Call (.Name "enumerate" p) [a] [] pos) (iEn A) := by
  refine PI.weak (pi_enum hg hm ha hs) ?_
  rintro σ H R0 ⟨Z, ρ, φ, R, h⟩
  refine ⟨Z, ρ, φ, R, PostA.bindI (R0 := R0) h fun ds φ1 xs Z1 H1 e1 w1 r1 h1 => ?_⟩
  revert r1 h1
  split
  · intro r1 h2
    obtain ⟨x, rfl, r2⟩ := r1.one'
    obtain ⟨a, vs, rfl, ha, rs, hk⟩ := lst_at w1 (r2.any (by cases q <;> decide))
    exact ⟨a, vs, rfl, SqL.of ha, by rw [hK]; exact h2 _ Z1 H1 .refl w1 (walk_enum rs hk)⟩
  · intro _ h2
    exact h2.elim
theorem i_zip {elts : List Expr} {kk : Nat} {tpos : Pos} (hK : X.K = c.K) (hm : X.mg "zip" = none) (ha : AX X c own (Wm q) W [a, b] A) (hg : Gl X "zip" := by rfl)
    (hs : starEach [a, b] X.env = (false, eval a X.env) :: starEach [b] X.env := by rfl) (hpl : (backTo pos (starEach [b] X.env)).any (·.1) = false := by rfl) :
    IJ X c own q W (.Tuple elts kk tpos) (.Call (.Name "zip" p) [a, b] [] pos) (iZp A) := by
  refine PI.weak (pi_zip hg hm ha hs hpl) ?_
  rintro σ H R0 ⟨Z, ρ, φ, R, h⟩
  refine ⟨Z, ρ, φ, R, PostA.bindI (R0 := R0) h fun ds φ1 xs Z1 H1 e1 w1 r1 h1 => ?_⟩
  revert r1 h1
  split
  · intro r1 h2
    obtain ⟨x, y, rfl, r2, r3⟩ := r1.two'
    obtain ⟨a, vs, rfl, ha, rs, hk⟩ := lst_at w1 (r2.any (by cases q <;> decide))
    obtain ⟨b, us, rfl, hb, rs', hk'⟩ := lst_at w1 (r3.any (by cases q <;> decide))
    exact ⟨a, b, vs, us, rfl, SqL.of ha, SqL.of hb, by rw [hK]; exact h2 _ Z1 H1 .refl w1 (walk_zip rs hk rs' hk')⟩
  · intro _ h2
    exact h2.elim
end
end
end Pf

set_option Elab.async false
set_option linter.all false
set_option maxRecDepth 100000
set_option maxHeartbeats 4000000
namespace Pf
open PySem PySem.Spec PyProof.Rows L2

/-! ## comprehensions -/
def wipeE (ρ : En) : List Nat → En
  | [] => ρ
  | v :: vs => (wipeE ρ vs).set v none
/-- what raises is no way out of a comprehension -/
def O.still {α : Type} : O α → O α
  | .ok a φ => .ok a φ
  | _ => .bad
/-- the turns of a comprehension -/
def lcGo (T : Tg) (tst : SB) (elt : SX) (ρ : En) : List D → Fd → O (List D)
  | [], φ => .ok [] φ
  | d :: ds, φ => match T d ρ with
    | none => .bad
    | some ρ1 => match tst ρ1 φ with
      | .ok true φ1 => match elt ρ1 φ1 with
        | .ok y φ2 => match lcGo T tst elt ρ ds φ2 with
          | .ok ys φ3 => .ok (y :: ys) φ3
          | _ => .bad
        | _ => .bad
      | .ok false φ1 => lcGo T tst elt ρ ds φ1
      | _ => .bad
def eLc (I : SA) (T : Tg) (tst : SB) (elt : SX) (vs : List Nat) : SX := fun ρ φ => (I ρ φ).bind fun ds φ1 => match lcGo T tst elt (wipeE ρ vs) ds φ1 with
  | .ok ys φ2 => if ys.length ≤ sizeLine then .ok (.lst ys) φ2 else .bad
  | _ => .bad
def bYes : SB := fun _ φ => .ok true φ
theorem lcGo_cons {T : Tg} {tst : SB} {elt : SX} {ρ : En} {d : D} {ds ys : List D} {φ φ' : Fd} (h : lcGo T tst elt ρ (d :: ds) φ = .ok ys φ') :
    ∃ ρ1 b φ1, T d ρ = some ρ1 ∧ tst ρ1 φ = .ok b φ1 ∧ ((b = false ∧ lcGo T tst elt ρ ds φ1 = .ok ys φ') ∨ (b = true ∧ ∃ y φ2 r, elt ρ1 φ1 = .ok y φ2 ∧ lcGo T tst elt ρ ds φ2 = .ok r φ' ∧ ys = y :: r)) := by
  unfold lcGo at h
  cases e1 : T d ρ with
  | none => rw [e1] at h; cases h
  | some ρ1 =>
    rw [e1] at h
    cases e2 : tst ρ1 φ with
    | ex _ _ _ => simp only [e2] at h; cases h
    | bad => simp only [e2] at h; cases h
    | ok b φ1 =>
      cases b with
      | false => simp only [e2] at h; exact ⟨ρ1, false, φ1, rfl, e2, .inl ⟨rfl, h⟩⟩
      | true =>
        simp only [e2] at h
        cases e3 : elt ρ1 φ1 with
        | ex _ _ _ => simp only [e3] at h; cases h
        | bad => simp only [e3] at h; cases h
        | ok y φ2 =>
          simp only [e3] at h
          cases e4 : lcGo T tst elt ρ ds φ2 with
          | ex _ _ _ => simp only [e4] at h; cases h
          | bad => simp only [e4] at h; cases h
          | ok r φ3 =>
            simp only [e4] at h
            cases h
            exact ⟨ρ1, true, φ1, rfl, e2, .inr ⟨rfl, y, φ2, r, e3, e4, rfl⟩⟩
def W0 : WX := fun _ _ _ _ => False
section
variable {c : Ct} {own : List Ms} {Z H Z' H' : Hp} {ρ : En} {φ φ' : Fd} {σ : L2.St}
/-- the slots of a block forgotten -/
theorem Rl.wipe (R : Rl c own Z ρ φ σ H) : ∀ vs : List Nat, Rl c own Z (wipeE ρ vs) φ (L2.wipe σ vs) H
  | [] => R
  | v :: vs => by
    have R1 := R.wipe vs
    show Rl c own Z ((wipeE ρ vs).set v none) φ ((L2.wipe σ vs).set v none) H
    have back : ∀ {j : Nat} {d : D}, ((wipeE ρ vs).set v none)[j]? = some (some d) → j ≠ v ∧ (wipeE ρ vs)[j]? = some (some d) := fun {j d} h => by
      rcases get_set h with ⟨_, q⟩ | ⟨hj, q⟩
      · cases q
      · exact ⟨hj, q⟩
    refine ⟨R1.wf, R1.ext, by simpa using R1.len, fun j d h1 h2 h3 => ?_, fun j d h1 h2 => ?_, fun j k a d e hjk h1 h2 h3 h4 h5 h6 h7 h8 => ?_, fun j d h1 h2 => ?_, fun j d h1 h2 => ?_⟩
    · obtain ⟨hj, q⟩ := back h1
      rw [List.getElem?_set_ne (Ne.symm hj)]
      exact R1.sh j d q h2 h3
    · obtain ⟨hj, q⟩ := back h1
      rw [List.getElem?_set_ne (Ne.symm hj)]
      exact R1.ow j d q h2
    · obtain ⟨hj, q⟩ := back h3
      obtain ⟨hk, q'⟩ := back h5
      rw [List.getElem?_set_ne (Ne.symm hj)] at h7
      rw [List.getElem?_set_ne (Ne.symm hk)] at h8
      exact R1.ne j k a d e hjk h1 h2 q h4 q' h6 h7 h8
    · obtain ⟨hj, q⟩ := back h1
      rw [List.getElem?_set_ne (Ne.symm hj)]
      exact R1.pn j d q h2
    · obtain ⟨hj, q⟩ := back h1
      rw [List.getElem?_set_ne (Ne.symm hj)]
      exact R1.pk j d q h2
end
/-- the own-list within a block -/
def ownB (own : List Ms) (vs : List Nat) : List Ms := vs.foldr (fun i o => o.set i .s) own
theorem ownB_get {own : List Ms} {j : Nat} : ∀ {vs : List Nat}, (ownB own vs)[j]? = some .o → own[j]? = some .o
  | [], h => h
  | v :: vs, h => by
    have h' : ((ownB own vs).set v .s)[j]? = some .o := h
    rcases get_set h' with ⟨_, q⟩ | ⟨_, q⟩
    · cases q
    · exact ownB_get q
theorem ownB_in {own : List Ms} {j : Nat} : ∀ {vs : List Nat}, j ∈ vs → (ownB own vs)[j]? ≠ some .o
  | v :: vs, h => by
    show ((ownB own vs).set v .s)[j]? ≠ some .o
    intro q
    rcases get_set q with ⟨_, q⟩ | ⟨hj, q⟩
    · cases q
    · exact ownB_in ((List.mem_cons.mp h).resolve_left hj) q
theorem ownB_out {own : List Ms} {j : Nat} : ∀ {vs : List Nat}, j ∉ vs → (ownB own vs)[j]? = own[j]?
  | [], _ => rfl
  | v :: vs, h => by
    show ((ownB own vs).set v .s)[j]? = own[j]?
    rw [List.getElem?_set_ne (fun e => h (by rw [e]; exact List.mem_cons_self))]
    exact ownB_out fun q => h (List.mem_cons_of_mem _ q)
theorem wipeE_in {ρ : En} : ∀ {vs : List Nat} {i : Nat} {d : D}, i ∈ vs → (wipeE ρ vs)[i]? ≠ some (some d)
  | v :: vs, i, d, h => by
    show ((wipeE ρ vs).set v none)[i]? ≠ some (some d)
    intro q
    rcases get_set q with ⟨_, q⟩ | ⟨hj, q⟩
    · cases q
    · exact wipeE_in ((List.mem_cons.mp h).resolve_left hj) q
theorem Rl.block {c : Ct} {own : List Ms} {Z H : Hp} {ρ : En} {φ : Fd} {σ : L2.St} (R : Rl c own Z ρ φ σ H) (vs : List Nat) : Rl c (ownB own vs) Z (wipeE ρ vs) φ (L2.wipe σ vs) H := by
  have R1 := R.wipe vs
  refine ⟨R1.wf, R1.ext, R1.len, fun j d h1 h2 h3 => ?_, fun j d h1 h2 => R1.ow j d h1 (ownB_get h2), fun j k a d e hjk h1 h2 => R1.ne j k a d e hjk (ownB_get h1) (ownB_get h2), fun j d h1 h2 => ?_, fun j d h1 h2 => ?_⟩
  · by_cases hj : j ∈ vs
    · exact absurd h1 (wipeE_in hj)
    · exact R1.sh j d h1 (by rw [← ownB_out (vs := vs) hj]; exact h2) (by rw [← ownB_out (vs := vs) hj]; exact h3)
  · have hj : j ∉ vs := fun hj => wipeE_in hj h1
    rw [ownB_out hj] at h2
    exact R1.pn j d h1 h2
  · have hj : j ∉ vs := fun hj => wipeE_in hj h1
    rw [ownB_out hj] at h2
    exact R1.pk j d h1 h2

section
variable {X : Cx} {c : Ct} {own o1 : List Ms} {q : Bool} {W : WX} {pos : Pos}
/-- what the turns of a comprehension need: within the block -/
theorem lc_read {I : SA} {T : Tg} {tst : SB} {elt : SX} {vs is : List Nat} {σ : L2.St} {H : Hp} {Q : VK} (his : ∀ j ∈ is, j ∈ vs) (h : tE c own .o W (eLc I T tst elt vs) σ H Q) :
    tLc (tI c own true W I) (tT c (ownB own vs) o1 is T) (tB c o1 W0 tst) (tE c o1 .s W0 elt) vs σ H Q := by
  obtain ⟨Z, ρ, φ, R, h⟩ := h
  refine ⟨Z, ρ, φ, R, ?_⟩
  unfold eLc at h
  cases hI : I ρ φ with
  | bad => rw [hI] at h; exact h
  | ex y l φ' => rw [hI] at h; exact h
  | ok ds φ1 =>
    rw [hI] at h
    intro J Z1 H1 e1 w1 wk D hD
    have hgo : ∃ ys φ2, lcGo T tst elt (wipeE ρ vs) ds φ1 = .ok ys φ2 ∧ ys.length ≤ sizeLine ∧ Post c .o W (.ok (.lst ys) φ2) σ Z H Q := by
      have h' : Post c .o W (match lcGo T tst elt (wipeE ρ vs) ds φ1 with
        | .ok ys φ2 => if ys.length ≤ sizeLine then .ok (.lst ys) φ2 else .bad
        | _ => .bad) σ Z H Q := h
      cases hg : lcGo T tst elt (wipeE ρ vs) ds φ1 with
      | bad => rw [hg] at h'; exact h'.elim
      | ex _ _ _ => rw [hg] at h'; exact h'.elim
      | ok ys φ2 =>
        rw [hg] at h'
        obtain ⟨h1, h2⟩ := iteO_ok (E := fun o => Post c .o W o σ Z H Q) h' fun z => z
        exact ⟨ys, φ2, rfl, h1, h2⟩
    obtain ⟨tot, φe, hgo, hsz, hpost⟩ := hgo
    have hDf : D ≠ c.f := fun e => w1.hf (by rw [← e]; exact hD)
    have hDz : ∀ Z2 H2, Ext c.f Z1 H1 Z2 H2 → True := fun _ _ _ => trivial
    -- the invariant
    refine ⟨fun i m Hn => m = ds.length - i ∧ i ≤ ds.length ∧ ∃ Zn φn acc accV rest, (∀ a o, Z1 a = some o → Zn a = some o) ∧ (∀ a o, a ≠ c.f → H1 a = some o → Hn a = some o) ∧ (∀ a, H1 a ≠ none → Hn a ≠ none) ∧ (∀ a, H1 a ≠ none → Z1 a = none → Zn a = none) ∧ FdK c.f H1 Hn ∧
      Zn D = none ∧ Wf c.K c.f Zn Hn φn ∧ Hn D = some (.lst accV) ∧ Reps c.K c.f Zn accV acc ∧ lcGo T tst elt (wipeE ρ vs) (ds.drop i) φn = .ok rest φe ∧ acc ++ rest = tot, ⟨ds.length, by simp, Nat.zero_le _, ?_⟩, ?_⟩
    · have up : ∀ b u, H1 b = some u → upd H1 D (.lst []) b = some u := fun b u e => by rw [upd_ne (ne_of_none e hD)]; exact e
      have hz : Z1 D = none := by
        cases e : Z1 D with
        | none => rfl
        | some u => rw [w1.sub D u e] at hD; cases hD
      refine ⟨Z1, φ1, [], [], tot, fun _ _ e => e, fun b u _ e => up b u e, fun b hb => ?_, fun _ _ e => e, .same (upd_ne (Ne.symm hDf)), hz, ⟨fun b u e => up b u (w1.sub b u e), w1.zf, ?_, w1.ok, w1.tt.upd (fun _ h => by cases h)⟩, upd_same, .nil, hgo, rfl⟩
      · cases e : H1 b with
        | none => exact absurd e hb
        | some u => rw [up b u e]; simp
      · obtain ⟨s, k1, k2⟩ := w1.feed
        exact ⟨s, k1, up _ _ k2⟩
    · rintro i m Hn ⟨rfl, hi, Zn, φn, acc, accV, rest, kz, kh, kk, kn, kd, nD, wn, hDn, ra, hg, ht⟩
      have en : Ext c.f Z1 H1 Zn Hn := ⟨kz, kh, kk, kn, kd⟩
      obtain ⟨wk1, wk2⟩ := wk i Zn Hn φn ⟨kz, fun _ => kh, (((R.more e1 w1).ext.trans en)).h⟩ wn
      by_cases hlt : i < ds.length
      · obtain ⟨d, hd⟩ : ∃ d, ds[i]? = some d := ⟨_, List.getElem?_eq_getElem hlt⟩
        obtain ⟨go, step⟩ := wk2 d hd
        rw [List.drop_eq_getElem_cons hlt] at hg
        have hdd : ds[i] = d := by
          rw [List.getElem?_eq_getElem hlt] at hd
          exact Option.some.inj hd
        rw [hdd] at hg
        obtain ⟨ρ1, b, φt, hT, htst, hcase⟩ := lcGo_cons hg
        refine .inr ⟨go, fun H' => ∃ m', m' < ds.length - i ∧ (m' = ds.length - (i + 1) ∧ i + 1 ≤ ds.length ∧ ∃ Zn φn acc accV rest, (∀ a o, Z1 a = some o → Zn a = some o) ∧ (∀ a o, a ≠ c.f → H1 a = some o → H' a = some o) ∧ (∀ a, H1 a ≠ none → H' a ≠ none) ∧ (∀ a, H1 a ≠ none → Z1 a = none → Zn a = none) ∧ FdK c.f H1 H' ∧
          Zn D = none ∧ Wf c.K c.f Zn H' φn ∧ H' D = some (.lst accV) ∧ Reps c.K c.f Zn accV acc ∧ lcGo T tst elt (wipeE ρ vs) (ds.drop (i + 1)) φn = .ok rest φe ∧ acc ++ rest = tot), fun H' h => h, fun x Hx hx => ?_⟩
        obtain ⟨Zx, ex, wx, rx⟩ := step x Hx hx
        have exx := en.trans ex
        have Rb : Rl c (ownB own vs) Zx (wipeE ρ vs) φn (L2.wipe σ vs) Hx := ((R.more e1 w1).more exx wx).block vs
        refine ⟨Zx, wipeE ρ vs, φn, d, ρ1, Rb, rx, hT, fun σ2 tr agr => ⟨?_, Zx, ρ1, φn, tr Zx Hx φn Sub.refl Rb, ?_⟩⟩
        · have hh : L2.wipe σ2 vs = L2.wipe (L2.wipe σ vs) vs := agr.wipe his
          rw [hh]
          refine Agr.wipe (is := vs) ⟨wipe_length _ _, fun j hj => wipe_out hj⟩ fun j h => h
        · have R2 := tr Zx Hx φn Sub.refl Rb
          have nDx : Zx D = none := ex.n D (by rw [hDn]; simp) nD
          have hDx : Hx D = some (.lst accV) := ex.h D _ hDf hDn
          rw [htst]
          intro Z3 H3 e3 w3
          have nD3 : Z3 D = none := e3.n D (by rw [hDx]; simp) nDx
          have hD3 : H3 D = some (.lst accV) := e3.h D _ hDf hDx
          have en3 := exx.trans e3
          have ra3 := (ra.mono ex.z).mono e3.z
          rcases hcase with ⟨rfl, hr⟩ | ⟨rfl, y, φy, r, hy, hr, hys⟩
          · rw [if_neg (by decide)]
            exact ⟨ds.length - (i + 1), by omega, rfl, hlt, Z3, φt, acc, accV, rest, en3.z, en3.h, en3.k, en3.n, en3.d, nD3, w3, hD3, ra3, hr, ht⟩
          · rw [if_pos rfl]
            refine ⟨Z3, ρ1, φt, R2.more e3 w3, ?_⟩
            rw [hy]
            intro v Z4 H4 e4 w4 r4
            have r4' : Rep c.K c.f Z4 v y := r4
            have nD4 : Z4 D = none := e4.n D (by rw [hD3]; simp) nD3
            have hD4 : H4 D = some (.lst accV) := e4.h D _ hDf hD3
            have en4 := en3.trans e4
            have ra4 := ra3.mono e4.z
            have hacc : accV.length < sizeLine := by
              have h1 := ra.length
              have h2 : (acc ++ rest).length ≤ sizeLine := by rw [ht]; exact hsz
              rw [hys, List.length_append, List.length_cons] at h2
              omega
            refine ⟨accV, hD4, hacc, ds.length - (i + 1), by omega, rfl, hlt, Z4, φy, acc ++ [y], accV ++ [v], r, en4.z, fun a o ha hh => ?_, fun a ha => ?_, en4.n, en4.d.trans (.same (upd_ne (Ne.symm hDf))), nD4, ⟨fun a o ha => ?_, w4.zf, ?_, w4.ok, w4.tt.upd (fun _ h => by cases h)⟩, upd_same, ra4.app (.cons r4' .nil), hr, ?_⟩
            · rw [upd_ne (ne_of_none hh hD)]; exact en4.h a o ha hh
            · by_cases hb : a = D
              · rw [hb, upd_same]; simp
              · rw [upd_ne hb]; exact en4.k a ha
            · rw [upd_ne (fun e => by rw [e, nD4] at ha; cases ha)]; exact w4.sub a o ha
            · obtain ⟨s, k1, k2⟩ := w4.feed
              exact ⟨s, k1, by rw [upd_ne (Ne.symm hDf)]; exact k2⟩
            · rw [List.append_assoc]; rw [← ht, hys]; rfl
      · have hie : i = ds.length := by omega
        refine .inl ⟨wk1 hie, ?_⟩
        rw [hie, List.drop_length] at hg
        cases hg
        rw [List.append_nil] at ht
        subst ht
        have e2 := e1.trans en
        refine hpost (.ref D) Zn Hn e2 wn ?_
        show Res .o c.K c.f H Zn Hn (.ref D) (.lst acc)
        unfold Res
        rw [if_pos (by rfl)]
        refine ⟨D, .lst accV, rfl, ?_, nD, hDf, hDn, .lst ra⟩
        cases e : H D with
        | none => rfl
        | some u => exact absurd hD (e1.k D (by rw [e]; simp))
theorem x_lc {elt tg iter : Expr} {ifs : List Expr} {scope : Scope} (nm : List (Str × Nat)) {is : List Nat} {I : SA} {T : Tg} {tst : SB} {elt' : SX} (hc : X.calm = true) (hN : X.N.Nodup) (ok : blkC X.N X.env.scope scope nm = true)
    (hi : IJ X c own true W tg iter I)
    (hg : ∀ (s : Shared) (H : Hp) (C : Addr) (cl : List (Str × Addr)) (fp : List Addr), TJ (X.blk s H scope (compEnvC scope cl C X.env) fp) c (ownB own (nm.map (·.2))) o1 is tg T)
    (ht : ∀ (s : Shared) (H : Hp) (C : Addr) (cl : List (Str × Addr)) (fp : List Addr), PTs (X.blk s H scope (compEnvC scope cl C X.env) fp) ifs (tB c o1 W0 tst))
    (he : ∀ (s : Shared) (H : Hp) (C : Addr) (cl : List (Str × Addr)) (fp : List Addr), EX (X.blk s H scope (compEnvC scope cl C X.env) fp) c o1 .s W0 elt elt')
    (hs : ∀ x, foldedSetIterable iter X.env x = pure x := by intro _; rfl) (hsub : ∀ j ∈ is, j ∈ nm.map (·.2) := by decide) :
    EX X c own .o W (.ListComp elt [⟨tg, iter, ifs, 0⟩] scope pos) (eLc I T tst elt' (nm.map (·.2))) :=
  PE.weak (pe_lc hc hN hi (blkOk_by ok) hg ht he hs) fun _ _ _ h => lc_read hsub h
theorem t_yes : PTs X [] (tB c own W bYes) := ⟨fun pins s σ H Q I ⟨Z, ρ, φ, R, h⟩ => pts_nil.run pins s σ H Q I (h Z H .refl R.wf)⟩
theorem t_one {e : Expr} {A : SB} (h : BX X c own W e A) : PTs X [e] (tB c own W A) := pts_one h
end
end Pf

set_option Elab.async false
set_option linter.all false
set_option maxRecDepth 100000
set_option maxHeartbeats 4000000
namespace Pf
open PySem PySem.Spec PyProof.Rows L2

/-! ## blocks -/
def sNil : SS := fun ρ φ => .nx ρ φ
def R.seq (r : R) (k : SS) : R :=
  match r with
  | .nx ρ φ => k ρ φ
  | r => r
def sSeq (A B : SS) : SS := fun ρ φ => (A ρ φ).seq B
section
variable {X : Cx} {c : Ct} {w : Ow} {own o1 on : List Ms} {pos : Pos}
theorem s_nil : SJs X c w own own [] sNil := PSs.weak pss_nil fun Dn σ H ⟨Z, ρ, φ, R0, h⟩ => h σ Z H Sub.refl R0
theorem s_cons {st : Stmt} {sts : List Stmt} {A B : SS} (h1 : SJ X c w own o1 st A) (h2 : SJs X c w o1 on sts B) : SJs X c w own on (st :: sts) (sSeq A B) := by
  refine PSs.weak (pss_cons h1 h2) ?_
  rintro Dn σ H ⟨Z, ρ, φ, R0, h⟩
  refine ⟨Z, ρ, φ, R0, ?_⟩
  unfold sSeq at h
  cases e : A ρ φ with
  | nx ρ1 φ1 =>
    rw [e] at h
    exact fun σ1 Z1 H1 k R1 => ⟨Z1, ρ1, φ1, R1, h.shift k⟩
  | rt d φ1 => rw [e] at h; exact h
  | bk ρ1 φ1 => rw [e] at h; exact h
  | ct ρ1 φ1 => rw [e] at h; exact h
  | ex y l ρ1 φ1 => rw [e] at h; exact h
  | bad => rw [e] at h; exact h
/-- cells are frozen ahead of a block -/
theorem s_frz (is : List Nat) (hp : ∀ i ∈ is, own[i]? ≠ some .p) {sts : List Stmt} {A : SS} (h : SJs X c w (is.foldr (fun i o => o.set i .s) own) on sts A) : SJs X c w own on sts A := by
  refine PSs.weak h ?_
  rintro Dn σ H ⟨Z, ρ, φ, R0, h⟩
  obtain ⟨Z', k, R1⟩ := R0.frzs is hp
  exact ⟨Z', ρ, φ, R1, h.shift k⟩
theorem s_frz1 (is : List Nat) (hp : ∀ i ∈ is, own[i]? ≠ some .p) {st : Stmt} {A : SS} (h : SJ X c w (is.foldr (fun i o => o.set i .s) own) on st A) : SJ X c w own on st A := by
  refine PS.weak h ?_
  rintro Dn σ H ⟨Z, ρ, φ, R0, h⟩
  obtain ⟨Z', k, R1⟩ := R0.frzs is hp
  exact ⟨Z', ρ, φ, R1, h.shift k⟩
/-- .. behind it -/
theorem s_end (is : List Nat) (hp : ∀ i ∈ is, on[i]? ≠ some .p) {sts : List Stmt} {A : SS} (h : SJs X c w own on sts A) : SJs X c w own (is.foldr (fun i o => o.set i .s) on) sts A := by
  refine PSs.weak h ?_
  rintro Dn σ H ⟨Z, ρ, φ, R0, h⟩
  refine ⟨Z, ρ, φ, R0, ?_⟩
  cases e : A ρ φ with
  | nx ρ1 φ1 =>
    rw [e] at h
    intro σ1 Z1 H1 k R1
    obtain ⟨Z2, k2, R2⟩ := R1.frzs is hp
    exact h σ1 Z2 H1 (k.trans k2) R2
  | rt d φ1 => rw [e] at h; exact h
  | bk ρ1 φ1 => rw [e] at h; exact h
  | ct ρ1 φ1 => rw [e] at h; exact h
  | ex y l ρ1 φ1 => rw [e] at h; exact h
  | bad => rw [e] at h; exact h
/-- a block that never comes to its end may end with any own-list -/
theorem s_any {o2 : List Ms} {sts : List Stmt} {A : SS} (h : SJs X c w own on sts A) (hn : ∀ ρ φ ρ' φ', A ρ φ ≠ .nx ρ' φ') : SJs X c w own o2 sts A := by
  refine PSs.weak h ?_
  rintro Dn σ H ⟨Z, ρ, φ, R0, h⟩
  refine ⟨Z, ρ, φ, R0, ?_⟩
  cases e : A ρ φ with
  | nx ρ1 φ1 => exact absurd e (hn _ _ _ _)
  | rt d φ1 => rw [e] at h; exact h
  | bk ρ1 φ1 => rw [e] at h; exact h
  | ct ρ1 φ1 => rw [e] at h; exact h
  | ex y l ρ1 φ1 => rw [e] at h; exact h
  | bad => rw [e] at h; exact h

/-! ## simple statements -/
def sSet (i : Nat) (A : SX) : SS := fun ρ φ => (A ρ φ).toR ρ fun d φ1 => .nx (ρ.set i (some d)) φ1
theorem set_read (i : Nat) {A : SX} {m : Md} {Dn : Ends} {σ : L2.St} {H : Hp} (hx : w.ox own) (hm : (m = .o ∧ i < own.length ∧ on = own.set i .o) ∨ (m = .s ∧ on = own.set i .s)) (h : tS c w own on (sSet i A) Dn σ H) :
    tAsg (tE c own m w.W A) (gName i) Dn σ H := by
  obtain ⟨Z, ρ, φ, R0, h⟩ := h
  refine ⟨Z, ρ, φ, R0, Post.toS (w := w) hx R0 h fun d φ1 v Z1 H1 e1 w1 r1 h1 => ?_⟩
  rcases hm with ⟨rfl, hi, rfl⟩ | ⟨rfl, rfl⟩
  · exact h1 _ Z1 H1 Sub.refl (R0.setO e1 w1 hi r1)
  · exact h1 _ Z1 H1 Sub.refl ((R0.more e1 w1).setS r1)
theorem s_setO (i : Nat) {x : Str} {e : Expr} {A : SX} {pos' : Pos} (hN : X.N.Nodup) (ha : EX X c own .o w.W e A) (hi : X.N[i]? = some x := by rfl) (hx : Loc X.env.scope x := by first | exact Or.inl rfl | exact Or.inr rfl) (hl : i < own.length := by decide)
    (hs : swapsWith e (some (.Name x pos')) pos.line X.env = pure false := by rfl) (hf : X.fn x = true ∨ X.env.scope.names.lookup x = some .local := by first | exact .inl rfl | exact .inr rfl) (ho : w.ox own := by first | exact trivial | rfl) :
    SJ X c w own (own.set i .o) (.Assign [.Name x pos'] e pos) (sSet i A) :=
  PS.weak (ps_set hN hi hx ha hs hf) fun Dn σ H h => set_read i ho (.inl ⟨rfl, hl, rfl⟩) h
theorem s_setS (i : Nat) {x : Str} {e : Expr} {A : SX} {pos' : Pos} (hN : X.N.Nodup) (ha : EX X c own .s w.W e A) (hi : X.N[i]? = some x := by rfl) (hx : Loc X.env.scope x := by first | exact Or.inl rfl | exact Or.inr rfl)
    (hs : swapsWith e (some (.Name x pos')) pos.line X.env = pure false := by rfl) (hf : X.fn x = true ∨ X.env.scope.names.lookup x = some .local := by first | exact .inl rfl | exact .inr rfl) (ho : w.ox own := by first | exact trivial | rfl) :
    SJ X c w own (own.set i .s) (.Assign [.Name x pos'] e pos) (sSet i A) :=
  PS.weak (ps_set hN hi hx ha hs hf) fun Dn σ H h => set_read i ho (.inr ⟨rfl, rfl⟩) h
/-- name = [.. for ..], the name a local of the def -/
theorem s_setLc (i : Nat) {y : Str} {py : Pos} {elt tg iter : Expr} {ifs : List Expr} {scope : Scope} (nm : List (Str × Nat)) {is : List Nat} {I : SA} {T : Tg} {tst : SB} {elt' : SX} {lcp : Pos} (hc : X.calm = true) (hN : X.N.Nodup) (ok : blkC X.N X.env.scope scope nm = true)
    (hi : IJ X c own true w.W tg iter I)
    (hg : ∀ (s : Shared) (H : Hp) (C : Addr) (cl : List (Str × Addr)) (fp : List Addr), TJ (X.blk s H scope (compEnvC scope cl C X.env) fp) c (ownB own (nm.map (·.2))) o1 is tg T)
    (ht : ∀ (s : Shared) (H : Hp) (C : Addr) (cl : List (Str × Addr)) (fp : List Addr), PTs (X.blk s H scope (compEnvC scope cl C X.env) fp) ifs (tB c o1 W0 tst))
    (he : ∀ (s : Shared) (H : Hp) (C : Addr) (cl : List (Str × Addr)) (fp : List Addr), EX (X.blk s H scope (compEnvC scope cl C X.env) fp) c o1 .s W0 elt elt')
    (hy : X.N[i]? = some y := by rfl) (hyl : X.env.scope.names.lookup y = some .local := by rfl) (hsw : swapsWith (.ListComp elt [⟨tg, iter, ifs, 0⟩] scope lcp) (some (.Name y py)) pos.line X.env = pure true := by exact sw_true rfl rfl rfl (by decide +kernel))
    (hl : i < own.length := by decide) (hs : ∀ x, foldedSetIterable iter X.env x = pure x := by intro _; rfl) (hsub : ∀ j ∈ is, j ∈ nm.map (·.2) := by decide) (ho : w.ox own := by first | exact trivial | rfl) :
    SJ X c w own (own.set i .o) (.Assign [.Name y py] (.ListComp elt [⟨tg, iter, ifs, 0⟩] scope lcp) pos) (sSet i (eLc I T tst elt' (nm.map (·.2)))) := by
  refine PS.weak (ps_setLc hc hN hy hyl hsw hi (blkOk_by ok) hg ht he hs) fun Dn σ H h => ?_
  have h2 := set_read (m := .o) i ho (.inl ⟨rfl, hl, rfl⟩) h
  exact lc_read hsub h2
/-- targets of several names -/
def sAsg (T : Tg) (A : SX) : SS := fun ρ φ => (A ρ φ).toR ρ fun d φ1 => match T d ρ with
  | some ρ' => .nx ρ' φ1
  | none => .bad
theorem s_asg {tg e : Expr} {T : Tg} {A : SX} {is : List Nat} (ha : EX X c own .s w.W e A) (hg : TJ X c own on is tg T) (hs : swapsWithSole [tg] e pos.line X.env = pure false := by rfl) (hw : swappedStores [tg] e X.env = pure none := by rfl)
    (h1 : (assignEach [tg] X.env).map (·.2) = [assign tg X.env] := by rfl) (ho : w.ox own := by first | exact trivial | rfl) : SJ X c w own on (.Assign [tg] e pos) (sAsg T A) := by
  refine PS.weak (ps_asg ha hg hs hw h1) ?_
  rintro Dn σ H ⟨Z, ρ, φ, R0, h⟩
  refine ⟨Z, ρ, φ, R0, Post.toS (w := w) ho R0 h fun d φ1 v Z1 H1 e1 w1 r1 h1 => ?_⟩
  cases eT : T d ρ with
  | none => simp only [eT] at h1; exact h1.elim
  | some ρ' =>
    simp only [eT] at h1
    exact ⟨Z1, ρ, φ1, d, ρ', R0.more e1 w1, r1, eT, fun σ' tr _ => h1 σ' Z1 H1 Sub.refl (tr Z1 H1 φ1 Sub.refl (R0.more e1 w1))⟩
/-- a, b = x, y: the values first -/
def sPar (i j : Nat) (A : SA) : SS := fun ρ φ => (A ρ φ).toR ρ fun ds φ1 => match ds with
  | [d, e] => .nx ((ρ.set i (some d)).set j (some e)) φ1
  | _ => .bad
theorem s_par (i j : Nat) {x y : Str} {a b : Expr} {A : SA} {px py pt : Pos} {kt k2 pt2} (hc : X.calm = true) (hN : X.N.Nodup) (ha : AX X c own .s w.W [a, b] A) (hi : X.N[i]? = some x := by rfl) (hj : X.N[j]? = some y := by rfl) (hij : i ≠ j := by decide)
    (hx : X.env.scope.names.lookup x = some .local := by rfl) (hy : X.env.scope.names.lookup y = some .local := by rfl)
    (hw : swappedStores [.Tuple [.Name x px, .Name y py] kt pt] (.Tuple [a, b] k2 pt2) X.env = pure (some [x, y]) := by rfl)
    (hs : swapsWithSole [.Tuple [.Name x px, .Name y py] kt pt] (.Tuple [a, b] k2 pt2) pos.line X.env = pure false := by rfl) (ho : w.ox own := by first | exact trivial | rfl) :
    SJ X c w own ((own.set i .s).set j .s) (.Assign [.Tuple [.Name x px, .Name y py] kt pt] (.Tuple [a, b] k2 pt2) pos) (sPar i j A) := by
  refine PS.weak (ps_par hc hN hi hj hij hx hy ha hw hs) ?_
  rintro Dn σ H ⟨Z, ρ, φ, R0, h⟩
  refine ⟨Z, ρ, φ, R0, PostA.toS (w := w) ho R0 h fun ds φ1 vs Z1 H1 e1 w1 r1 h1 => ?_⟩
  revert r1 h1
  split
  · intro r1 h1
    obtain ⟨u, v, rfl, r2, r3⟩ := r1.two'
    exact ⟨u, v, rfl, h1 _ Z1 H1 Sub.refl (((R0.more e1 w1).setS r2).setS r3)⟩
  · intro _ h1
    exact h1.elim
/-- an expression alone -/
def sExp (A : SX) : SS := fun ρ φ => (A ρ φ).toR ρ fun _ φ1 => .nx ρ φ1
theorem s_exp {e : Expr} {A : SX} {m : Md} (ha : EX X c own m w.W e A) (hs : swapsWith e none pos.line X.env = pure false := by rfl) (ho : w.ox own := by first | exact trivial | rfl) : SJ X c w own own (.Expr e pos) (sExp A) := by
  refine PS.weak (ps_expr ha hs) ?_
  rintro Dn σ H ⟨Z, ρ, φ, R0, h⟩
  exact ⟨Z, ρ, φ, R0, Post.toS (w := w) ho R0 h fun d φ1 v Z1 H1 e1 w1 r1 h1 => h1 σ Z1 H1 Sub.refl (R0.more e1 w1)⟩
theorem s_doc {x j pos'} : SJ X c w own own (.Expr (.Constant (.str x) j pos) pos') sNil := PS.weak ps_doc fun Dn σ H ⟨Z, ρ, φ, R0, h⟩ => h σ Z H Sub.refl R0
theorem s_pass : SJ X c w own own (.Pass pos) sNil := PS.weak ps_pass fun Dn σ H ⟨Z, ρ, φ, R0, h⟩ => h σ Z H Sub.refl R0
def sBrk : SS := fun ρ φ => .bk ρ φ
def sCnt : SS := fun ρ φ => .ct ρ φ
theorem s_brk {m : Md} {W : WX} {ox : List Ms → Prop} : SJ X c ⟨m, W, ox, own⟩ own on (.Break pos) sBrk := PS.weak ps_break fun Dn σ H ⟨Z, ρ, φ, R0, h⟩ => h σ Z H Sub.refl R0
theorem s_cnt {m : Md} {W : WX} {ox : List Ms → Prop} : SJ X c ⟨m, W, ox, own⟩ own on (.Continue pos) sCnt := PS.weak ps_continue fun Dn σ H ⟨Z, ρ, φ, R0, h⟩ => h σ Z H Sub.refl R0
/-- return e -/
def sRet (A : SX) : SS := fun ρ φ => (A ρ φ).toR ρ fun d φ1 => .rt d φ1
theorem s_ret {e : Expr} {A : SX} (ha : EX X c own w.m w.W e A) (ho : w.ox own := by first | exact trivial | rfl) : SJ X c w own on (.Return (some e) pos) (sRet A) := by
  refine PS.weak (ps_ret ha) ?_
  rintro Dn σ H ⟨Z, ρ, φ, R0, h⟩
  refine ⟨Z, ρ, φ, R0, Post.toS (w := w) ho R0 h fun d φ1 v Z1 H1 e1 w1 r1 h1 => ?_⟩
  exact h1 v Z1 H1 (R0.more e1 w1).ext w1 (r1.start R0.ext.k)
/-- return x, x an own name: it goes out as it is -/
theorem s_retN (i : Nat) {x : Str} {p : Pos} (hm : w.m = .o := by rfl) (hw : own[i]? = some .o := by rfl) (hN : X.N[i]? = some x := by rfl) (hv : Vis X.env.scope x := by first | exact Or.inl rfl | exact Or.inr (Or.inl rfl) | exact Or.inr (Or.inr rfl)) (hd : (x == ("__debug__" : Str)) = false := by decide)
    (hcd : (x == ("__classdict__" : Str)) = false := by decide) : SJ X c w own on (.Return (some (.Name x p)) pos) (sRet (eVar i)) := by
  refine PS.weak (ps_ret (pe_var hN hv hd hcd)) ?_
  rintro Dn σ H ⟨Z, ρ, φ, R0, h⟩
  unfold sRet eVar at h
  split at h
  · rename_i d hdd
    obtain ⟨v, hv, r⟩ := R0.ow i d hdd hw
    exact ⟨v, hv, h v Z H R0.ext R0.wf (by rw [hm]; exact r)⟩
  · exact h.elim
def sRetN : SS := fun _ φ => .rt .non φ
theorem s_ret0 : SJ X c w own on (.Return none pos) sRetN := PS.weak ps_retN fun Dn σ H ⟨Z, ρ, φ, R0, h⟩ => h _ Z H R0.ext R0.wf (Res.of_flat .non rfl)
/-- if -/
def sIf (T : SB) (A B : SS) : SS := fun ρ φ => (T ρ φ).toR ρ fun b φ1 => if b = true then A ρ φ1 else B ρ φ1
theorem s_if {t : Expr} {a b : List Stmt} {T : SB} {A B : SS} (ht : BX X c own w.W t T) (ha : SJs X c w own on a A) (hb : SJs X c w own on b B) (ho : w.ox own := by first | exact trivial | rfl) : SJ X c w own on (.If t a b pos) (sIf T A B) := by
  refine PS.weak (ps_if ht ha hb) ?_
  rintro Dn σ H ⟨Z, ρ, φ, R0, h⟩
  refine ⟨Z, ρ, φ, R0, PostB.toS (w := w) ho R0 h fun d φ1 Z1 H1 e1 w1 h1 => ?_⟩
  cases d with
  | true => exact ⟨Z1, ρ, φ1, R0.more e1 w1, h1⟩
  | false => exact ⟨Z1, ρ, φ1, R0.more e1 w1, h1⟩

/-! ## own lists changed -/
/-- x.meth(e), x an own list: g the new list -/
def sMut (i : Nat) (g : List D → D → Option (List D)) (A : SX) : SS := fun ρ φ => match ρ[i]? with
  | some (some (.lst l)) => (A ρ φ).toR ρ fun e φ1 => (match g l e with | some l' => .nx (ρ.set i (some (.lst l'))) φ1 | none => .bad)
  | _ => .bad
theorem Rl.cell {Z H : Hp} {ρ : En} {φ : Fd} {σ : L2.St} (R0 : Rl c own Z ρ φ σ H) {i : Nat} {ds : List D} (ho : own[i]? = some .o) (hd : ρ[i]? = some (some (.lst ds))) : ∃ a vs, σ[i]? = some (some (.ref a)) ∧ H a = some (.lst vs) ∧ Reps c.K c.f Z vs ds ∧ Z a = none := by
  obtain ⟨u, hu, ru⟩ := R0.ow i _ hd ho
  unfold Res at ru
  rw [if_pos (by rfl)] at ru
  obtain ⟨a, o, rfl, _, hz, _, ha, rc⟩ := ru
  cases rc with
  | lst q => exact ⟨a, _, hu, ha, q, hz⟩
/-- g tells what the rule r asks -/
def MutG (r : V → List V → Hp → VK → Prop) (c : Ct) (m : Md) (g : List D → D → Option (List D)) : Prop :=
  ∀ (Z H H0 : Hp) (φ : Fd) (a : Addr) (vs : List V) (ds ds' : List D) (y : V) (e : D) (Q : VK), Wf c.K c.f Z H φ → H a = some (.lst vs) → Reps c.K c.f Z vs ds → Res m c.K c.f H0 Z H y e → g ds e = some ds' →
    (∀ vs', Reps c.K c.f Z vs' ds' → Q .non (upd H a (.lst vs'))) → r (.ref a) [y] H Q
theorem s_mut1 (i : Nat) {x nm : Str} {e : Expr} {A : SX} {p apos cpos pos2 : Pos} {m : Md} {r : V → List V → Hp → VK → Prop} {g : List D → D → Option (List D)} (hG : MutG r c m g)
    (hpe : PE X (.Call (.Attribute (.Name x p) nm apos) [e] [] cpos) (tBM X.K "list" r (tVar i) (tCons (tE c own m w.W A) tNil))) (hw : own[i]? = some .o := by rfl)
    (hs : swapsWith (.Call (.Attribute (.Name x p) nm apos) [e] [] cpos) none pos2.line X.env = pure false := by rfl) (ho : w.ox own := by first | exact trivial | rfl) :
    SJ X c w own own (.Expr (.Call (.Attribute (.Name x p) nm apos) [e] [] cpos) pos2) (sMut i g A) := by
  refine PS.weak (ps_expr hpe hs) ?_
  rintro Dn σ H ⟨Z, ρ, φ, R0, h⟩
  unfold sMut at h
  split at h
  · rename_i l hd
    obtain ⟨a, vs, ha, hH, rs, hz⟩ := R0.cell hw hd
    refine ⟨.ref a, ha, .inl ⟨rfl, vs, .inl (.inl hH)⟩, Z, ρ, φ, R0, Post.toS (w := w) ho R0 h fun d φ1 v Z1 H1 e1 w1 r1 h1 => ?_⟩
    split at h1
    · rename_i l' hg
      have R1 := R0.more e1 w1
      obtain ⟨b, us, hb, hH1, rs1, hz1⟩ := Rl.cell R1 hw hd
      rw [ha] at hb
      cases hb
      refine hG Z1 H1 H φ1 a us l l' v d _ w1 hH1 rs1 r1 hg fun vs' rs' => ?_
      exact h1 σ Z1 _ Sub.refl (R1.write hw hd rfl ha (.lst rs'))
    · exact h1.elim
  · exact h.elim
def gApp (l : List D) (e : D) : Option (List D) := if l.length < sizeLine then some (l ++ [e]) else none
def gExt (l : List D) (e : D) : Option (List D) := match e with
  | .lst k => if l.length + k.length ≤ sizeLine then some (l ++ k) else none
  | _ => none
theorem gApp_ok : MutG rAppend c .s gApp := by
  intro Z H H0 φ a vs ds ds' y e Q w ha rs ry hg h
  obtain ⟨hz, rfl⟩ := ifs hg
  exact ⟨a, vs, y, rfl, rfl, ha, by rw [rs.length]; exact hz, h _ (rs.app (.cons (show Rep c.K c.f Z y e from ry) .nil))⟩
theorem gExt_ok : MutG rExtend c .p gExt := by
  intro Z H H0 φ a vs ds ds' y e Q w ha rs ry hg h
  cases e with
  | lst k =>
    obtain ⟨hz, rfl⟩ := ifs hg
    obtain ⟨b, us, rfl, hb, rs'⟩ := (show Res .p c.K c.f H Z H y (.lst k) from ry).lst w
    exact ⟨a, b, vs, us, rfl, rfl, ha, hb, by rw [rs.length, rs'.length]; exact hz, h _ (rs.app rs')⟩
  | _ => cases hg
/-- x.append(e) -/
theorem s_append (i : Nat) {x : Str} {e : Expr} {A : SX} {p apos cpos pos2 : Pos} (ha : EX X c own .s w.W e A) (hw : own[i]? = some .o := by rfl) (hN : X.N[i]? = some x := by rfl) (hv : Vis X.env.scope x := by first | exact Or.inl rfl | exact Or.inr (Or.inl rfl) | exact Or.inr (Or.inr rfl))
    (hd : (x == ("__debug__" : Str)) = false := by decide) (hcd : (x == ("__classdict__" : Str)) = false := by decide)
    (hbase : attributeBase (.Name x p) "append" X.env (eval (.Name x p) X.env) = eval (.Name x p) X.env := by rfl)
    (hfew : ((backTo cpos (starEach [e] X.env)).all (fun x => !x.1) && (backToKw cpos (keywordEach [] X.env)).all (fun x => x.1.isSome) && decide ([e].length + ([] : List Keyword).length + (if ([] : List Keyword).isEmpty then 0 else 1) < 30)) = true := by rfl)
    (hline : (apos.endLine == cpos.line) = true := by rfl) (hse : starEach [e] X.env = (false, eval e X.env) :: starEach [] X.env := by rfl) (hplain : (backTo cpos (starEach [] X.env)).any (·.1) = false := by rfl)
    (hs : swapsWith (.Call (.Attribute (.Name x p) "append" apos) [e] [] cpos) none pos2.line X.env = pure false := by rfl) (ho : w.ox own := by first | exact trivial | rfl) :
    SJ X c w own own (.Expr (.Call (.Attribute (.Name x p) "append" apos) [e] [] cpos) pos2) (sMut i gApp A) :=
  s_mut1 i gApp_ok (pe_bm PySem.F.plainAttrs_list PySem.F.slot_list_append PySem.F.type_list_append mt_append (pe_var hN hv hd hcd) (pa_cons ha pa_nil hse) hbase hfew hline hse hplain) hw hs ho
theorem s_extend (i : Nat) {x : Str} {e : Expr} {A : SX} {p apos cpos pos2 : Pos} (ha : EX X c own .p w.W e A) (hw : own[i]? = some .o := by rfl) (hN : X.N[i]? = some x := by rfl) (hv : Vis X.env.scope x := by first | exact Or.inl rfl | exact Or.inr (Or.inl rfl) | exact Or.inr (Or.inr rfl))
    (hd : (x == ("__debug__" : Str)) = false := by decide) (hcd : (x == ("__classdict__" : Str)) = false := by decide)
    (hbase : attributeBase (.Name x p) "extend" X.env (eval (.Name x p) X.env) = eval (.Name x p) X.env := by rfl)
    (hfew : ((backTo cpos (starEach [e] X.env)).all (fun x => !x.1) && (backToKw cpos (keywordEach [] X.env)).all (fun x => x.1.isSome) && decide ([e].length + ([] : List Keyword).length + (if ([] : List Keyword).isEmpty then 0 else 1) < 30)) = true := by rfl)
    (hline : (apos.endLine == cpos.line) = true := by rfl) (hse : starEach [e] X.env = (false, eval e X.env) :: starEach [] X.env := by rfl) (hplain : (backTo cpos (starEach [] X.env)).any (·.1) = false := by rfl)
    (hs : swapsWith (.Call (.Attribute (.Name x p) "extend" apos) [e] [] cpos) none pos2.line X.env = pure false := by rfl) (ho : w.ox own := by first | exact trivial | rfl) :
    SJ X c w own own (.Expr (.Call (.Attribute (.Name x p) "extend" apos) [e] [] cpos) pos2) (sMut i gExt A) :=
  s_mut1 i gExt_ok (pe_bm PySem.F.plainAttrs_list PySem.F.slot_list_extend PySem.F.type_list_extend mt_extend (pe_var hN hv hd hcd) (pa_cons ha pa_nil hse) hbase hfew hline hse hplain) hw hs ho
/-- x[k] = e, x an own list -/
def sPut (i : Nat) (A B : SX) : SS := fun ρ φ => (A ρ φ).toR ρ fun d φ1 => match ρ[i]? with
  | some (some (.lst l)) => (B ρ φ1).toR ρ fun k φ2 => (match k with
    | .int z => (match ixN l.length z with | some j => .nx (ρ.set i (some (.lst (l.set j d)))) φ2 | none => .bad)
    | _ => .bad)
  | _ => .bad
theorem s_put (i : Nat) {x : Str} {e k : Expr} {A B : SX} {p p2 : Pos} (ha : EX X c own .s w.W e A) (hk : EX X c own .p w.W k B) (hw : own[i]? = some .o := by rfl) (hN : X.N[i]? = some x := by rfl) (hv : Vis X.env.scope x := by first | exact Or.inl rfl | exact Or.inr (Or.inl rfl) | exact Or.inr (Or.inr rfl))
    (hd : (x == ("__debug__" : Str)) = false := by decide) (hcd : (x == ("__classdict__" : Str)) = false := by decide)
    (hst : ∀ v, assign (.Subscript (.Name x p) k p2) X.env v = (do
      let ov ← holding [v] (eval (.Name x p) X.env)
      let iv ← holding [v, ov] (eval k X.env)
      standAt p2
      holding [v, ov, iv] (setItem ov iv v)
      release [v, ov, iv] []) := by intro _; rfl)
    (hs : swapsWithSole [.Subscript (.Name x p) k p2] e pos.line X.env = pure false := by rfl) (hsw : swappedStores [.Subscript (.Name x p) k p2] e X.env = pure none := by rfl)
    (h1 : (assignEach [.Subscript (.Name x p) k p2] X.env).map (·.2) = [assign (.Subscript (.Name x p) k p2) X.env] := by rfl) (ho : w.ox own := by first | exact trivial | rfl) :
    SJ X c w own own (.Assign [.Subscript (.Name x p) k p2] e pos) (sPut i A B) := by
  refine PS.weak (ps_asg ha (pg_sub (pe_var hN hv hd hcd) hk set_list hst) hs hsw h1) ?_
  rintro Dn σ H ⟨Z, ρ, φ, R0, h⟩
  refine ⟨Z, ρ, φ, R0, Post.toS (w := w) ho R0 h fun d φ1 v Z1 H1 e1 w1 r1 h1 => ?_⟩
  split at h1
  · rename_i l hdd
    have R1 := R0.more e1 w1
    obtain ⟨a, vs, hav, hH, rs, hz⟩ := R1.cell hw hdd
    refine ⟨.ref a, hav, Z1, ρ, φ1, R1, Post.toS (w := w) ho R1 h1 fun kd φ2 kv Z2 H2 e2 w2 r2 h2 => ?_⟩
    cases kd with
    | int z =>
      have R2 := R1.more e2 w2
      obtain ⟨b, us, hb, hH2, rs2, hz2⟩ := R2.cell hw hdd
      rw [hav] at hb
      cases hb
      have h2' : PostS c w own (match ixN l.length z with | some j => R.nx (ρ.set i (some (.lst (l.set j d)))) φ2 | none => .bad) Dn Z2 := h2
      split at h2'
      · rename_i j hj
        exact ⟨a, us, z, j, rfl, r2.int, hH2, by rw [rs2.length]; exact hj, h2' σ Z2 _ Sub.refl (R2.write hw hdd rfl hav (.lst (rs2.set (Rep.mono e2.z r1) j)))⟩
      · exact h2'.elim
    | _ => exact h2.elim
  · exact h1.elim
/-- x += e, ints -/
def sAug (i : Nat) (f : Int → Int → Int) (A : SX) : SS := fun ρ φ => match ρ[i]? with
  | some (some (.int z)) => (A ρ φ).toR ρ fun e φ1 => (match e with | .int k => .nx (ρ.set i (some (.int (f z k)))) φ1 | _ => .bad)
  | _ => .bad
theorem s_aug (i : Nat) {x : Str} {e : Expr} {A : SX} {op : Operator} {f : Int → Int → Int} {p : Pos} (hop : PIp X op (ipI f)) (hNd : X.N.Nodup) (ha : EX X c own .p w.W e A) (hN : X.N[i]? = some x := by rfl) (hx : Loc X.env.scope x := by first | exact Or.inl rfl | exact Or.inr rfl)
    (hf : X.fn x = true ∨ X.env.scope.names.lookup x = some .local := by first | exact .inl rfl | exact .inr rfl) (ho : w.ox own := by first | exact trivial | rfl) : SJ X c w own (own.set i .s) (.AugAssign (.Name x p) op e pos) (sAug i f A) := by
  refine PS.weak (ps_aug hNd hN hx ha hop hf) ?_
  rintro Dn σ H ⟨Z, ρ, φ, R0, h⟩
  unfold sAug at h
  split at h
  · rename_i z hz
    obtain ⟨v, hv, rv⟩ := R0.look hz
    refine ⟨v, hv, Z, ρ, φ, R0, Post.toS (w := w) ho R0 h fun d φ1 u Z1 H1 e1 w1 r1 h1 => ?_⟩
    cases d with
    | int k => exact ⟨z, k, rv.int, r1.int, h1 _ Z1 H1 Sub.refl ((R0.more e1 w1).setS (.int _))⟩
    | _ => exact h1.elim
  · exact h.elim
end

/-! ## loops -/
def forGo (T : Tg) (B : SS) : List D → En → Fd → R
  | [], ρ, φ => .nx ρ φ
  | d :: ds, ρ, φ => match T d ρ with
    | none => .bad
    | some ρ1 => match B ρ1 φ with
      | .nx ρ2 φ2 => forGo T B ds ρ2 φ2
      | .ct ρ2 φ2 => forGo T B ds ρ2 φ2
      | .bk ρ2 φ2 => .nx ρ2 φ2
      | .rt d φ2 => .rt d φ2
      | .ex x l ρ2 φ2 => .ex x l ρ2 φ2
      | .bad => .bad
def sFor (I : SA) (T : Tg) (B : SS) : SS := fun ρ φ => (I ρ φ).toR ρ fun ds φ1 => forGo T B ds ρ φ1
def whGo (C : SB) (B : SS) : Nat → En → Fd → R
  | 0, _, _ => .bad
  | n + 1, ρ, φ => (C ρ φ).toR ρ fun b φ1 => if b = true then (match B ρ φ1 with
      | .nx ρ2 φ2 => whGo C B n ρ2 φ2
      | .ct ρ2 φ2 => whGo C B n ρ2 φ2
      | .bk ρ2 φ2 => .nx ρ2 φ2
      | .rt d φ2 => .rt d φ2
      | .ex x l ρ2 φ2 => .ex x l ρ2 φ2
      | .bad => .bad) else .nx ρ φ1
section
variable {X : Cx} {c : Ct} {m : Md} {W : WX} {ox : List Ms → Prop} {lp own o1 : List Ms} {pos : Pos}
theorem s_for {tg iter : Expr} {body : List Stmt} {is : List Nat} {I : SA} {T : Tg} {B : SS} (hp : PassesOwn (model X.prog X.w) X.A X.env X.xe) (hc : X.calm = true) (hi : IJ X c own false W tg iter I) (hg : TJ X c own o1 is tg T) (hb : SJs X c ⟨m, W, ox, own⟩ o1 own body B)
    (hs : ∀ x, foldedSetIterable iter X.env x = pure x := by intro _; rfl) (ho : ox own := by first | exact trivial | rfl) : SJ X c ⟨m, W, ox, lp⟩ own own (.For tg iter body [] pos) (sFor I T B) := by
  refine PS.weak (ps_for hp hc hi hg hb hs) ?_
  rintro Dn σ H ⟨Z, ρ, φ, R0, h⟩
  refine ⟨Z, ρ, φ, R0, ?_⟩
  unfold sFor at h
  cases hI : I ρ φ with
  | bad => rw [hI] at h; exact h
  | ex y l φ1 => rw [hI] at h; exact fun cls dx Z' H' e w' r => h cls dx σ Z' H' own ho (R0.more e w') r
  | ok ds φ1 =>
    rw [hI] at h
    intro J Z1 H1 e1 w1 wk
    refine ⟨fun i k σn Hn => k = ds.length - i ∧ i ≤ ds.length ∧ ∃ Zn ρn φn, (∀ a o, Z1 a = some o → Zn a = some o) ∧ Rl c own Zn ρn φn σn Hn ∧ PostS c ⟨m, W, ox, lp⟩ own (forGo T B (ds.drop i) ρn φn) Dn Zn,
      ⟨ds.length, by simp, Nat.zero_le _, Z1, ρ, φ1, fun _ _ e => e, R0.more e1 w1, PostS.shift h e1.z⟩, ?_⟩
    rintro i k σn Hn ⟨rfl, hi, Zn, ρn, φn, kz, Rn, hP⟩
    obtain ⟨wk1, wk2⟩ := wk i Zn Hn φn ⟨kz, fun e => absurd e (by decide), Rn.ext.h⟩ Rn.wf
    by_cases hlt : i < ds.length
    · obtain ⟨d, hd⟩ : ∃ d, ds[i]? = some d := ⟨_, List.getElem?_eq_getElem hlt⟩
      obtain ⟨go, step⟩ := wk2 d hd
      rw [List.drop_eq_getElem_cons hlt] at hP
      have hdd : ds[i] = d := by
        rw [List.getElem?_eq_getElem hlt] at hd
        exact Option.some.inj hd
      rw [hdd] at hP
      refine .inr ⟨go, fun σ' H' => ∃ k', k' < ds.length - i ∧ (k' = ds.length - (i + 1) ∧ i + 1 ≤ ds.length ∧ ∃ Zn ρn φn, (∀ a o, Z1 a = some o → Zn a = some o) ∧ Rl c own Zn ρn φn σ' H' ∧ PostS c ⟨m, W, ox, lp⟩ own (forGo T B (ds.drop (i + 1)) ρn φn) Dn Zn), fun _ _ q => q, fun x Hx hx => ?_⟩
      obtain ⟨Zx, ex, wx, rx⟩ := step x Hx hx
      unfold forGo at hP
      cases hT : T d ρn with
      | none => rw [hT] at hP; exact hP.elim
      | some ρ1 =>
        rw [hT] at hP
        refine ⟨Zx, ρn, φn, d, ρ1, Rn.more ex wx, rx, hT, fun σ2 tr _ => ⟨Zx, ρ1, φn, tr Zx Hx φn Sub.refl (Rn.more ex wx), ?_⟩⟩
        have kzx : Sub Z1 Zx := Sub.trans kz ex.z
        have hP' : PostS c ⟨m, W, ox, lp⟩ own (match B ρ1 φn with
          | .nx ρ2 φ2 => forGo T B (ds.drop (i + 1)) ρ2 φ2
          | .ct ρ2 φ2 => forGo T B (ds.drop (i + 1)) ρ2 φ2
          | .bk ρ2 φ2 => .nx ρ2 φ2
          | .rt d φ2 => .rt d φ2
          | .ex x l ρ2 φ2 => .ex x l ρ2 φ2
          | .bad => .bad) Dn Zx := PostS.shift hP ex.z
        cases hB : B ρ1 φn with
        | nx ρ2 φ2 =>
          rw [hB] at hP'
          exact fun σ3 Z3 H3 k3 R3 => ⟨_, by omega, rfl, hlt, Z3, ρ2, φ2, kzx.trans k3, R3, hP'.shift k3⟩
        | ct ρ2 φ2 =>
          rw [hB] at hP'
          exact fun σ3 Z3 H3 k3 R3 => ⟨_, by omega, rfl, hlt, Z3, ρ2, φ2, kzx.trans k3, R3, hP'.shift k3⟩
        | bk ρ2 φ2 => rw [hB] at hP'; exact hP'
        | rt d φ2 => rw [hB] at hP'; exact hP'
        | ex x l ρ2 φ2 => rw [hB] at hP'; exact hP'
        | bad => rw [hB] at hP'; exact hP'
    · have hie : i = ds.length := by omega
      refine .inl ⟨wk1 hie, ?_⟩
      rw [hie, List.drop_length] at hP
      exact hP σn Zn Hn Sub.refl Rn
theorem s_while (n : Nat) {t : Expr} {body : List Stmt} {C : SB} {B : SS} (hp : PassesOwn (model X.prog X.w) X.A X.env X.xe) (ht : BX X c own W t C) (hb : SJs X c ⟨m, W, ox, own⟩ own own body B) (ho : ox own := by first | exact trivial | rfl) : SJ X c ⟨m, W, ox, lp⟩ own own (.While t body [] pos) (whGo C B n) := by
  refine PS.weak (ps_while hp ht hb) ?_
  rintro Dn σ H ⟨Z, ρ, φ, R0, h⟩
  refine ⟨fun k σn Hn => ∃ Zn ρn φn, Rl c own Zn ρn φn σn Hn ∧ PostS c ⟨m, W, ox, lp⟩ own (whGo C B k ρn φn) Dn Zn, ⟨n, Z, ρ, φ, R0, h⟩, ?_⟩
  rintro k σn Hn ⟨Zn, ρn, φn, Rn, hP⟩
  refine ⟨Zn, ρn, φn, Rn, ?_⟩
  cases k with
  | zero => exact hP.elim
  | succ k =>
    refine PostB.toS (w := ⟨m, W, ox, lp⟩) ho Rn hP fun b φ1 Z1 H1 e1 w1 h1 => ?_
    cases b with
    | false => exact h1 σn Z1 H1 Sub.refl (Rn.more e1 w1)
    | true =>
      rw [if_pos rfl]
      refine ⟨fun σ' H' => ∃ k', k' < k + 1 ∧ ∃ Zn ρn φn, Rl c own Zn ρn φn σ' H' ∧ PostS c ⟨m, W, ox, lp⟩ own (whGo C B k' ρn φn) Dn Zn, fun _ _ q => q, Z1, ρn, φ1, Rn.more e1 w1, ?_⟩
      have h1' : PostS c ⟨m, W, ox, lp⟩ own (match B ρn φ1 with
          | .nx ρ2 φ2 => whGo C B k ρ2 φ2
          | .ct ρ2 φ2 => whGo C B k ρ2 φ2
          | .bk ρ2 φ2 => .nx ρ2 φ2
          | .rt d φ2 => .rt d φ2
          | .ex x l ρ2 φ2 => .ex x l ρ2 φ2
          | .bad => .bad) Dn Z1 := h1
      cases hB : B ρn φ1 with
      | nx ρ2 φ2 =>
        rw [hB] at h1'
        exact fun σ3 Z3 H3 k3 R3 => ⟨k, Nat.lt_succ_self _, Z3, ρ2, φ2, R3, h1'.shift k3⟩
      | ct ρ2 φ2 =>
        rw [hB] at h1'
        exact fun σ3 Z3 H3 k3 R3 => ⟨k, Nat.lt_succ_self _, Z3, ρ2, φ2, R3, h1'.shift k3⟩
      | bk ρ2 φ2 => rw [hB] at h1'; exact h1'
      | rt d φ2 => rw [hB] at h1'; exact h1'
      | ex x l ρ2 φ2 => rw [hB] at h1'; exact h1'
      | bad => rw [hB] at h1'; exact h1'
end
end Pf

set_option Elab.async false
set_option linter.all false
set_option maxRecDepth 100000
set_option maxHeartbeats 4000000
namespace Pf
open PySem PySem.Spec PyProof.Rows L2
/-- a def that may raise, by its body -/
theorem okXN {P : Program} {w : World} {K : PySem.W.Frag} {mg : Str → Option Value} {base : Heap} {x qual : Str} {st : Stmt} {f : Addr} {fd : FuncData} {N ps : List Str} {k : Nat} {sp : Sp} (F : Fun K x qual st f fd) (S : FnScope N ps (defScope st)) (len : ∀ vs H Q E, sp vs H Q E → vs.length = ps.length)
    (hb : ∀ (cdv : Value) (A : Around) (outer : List Env) (s : Shared) (H : Hp) (vs : List V) (Q : VK) (E : XK), Room k (A.deeper (envOfC qual (defScope st) s.heap.objs.size f cdv)) → sp vs H Q E →
      ∃ t, PSs (cxOf (L2N.CX P w) P w K mg base N qual (defScope st) f cdv A outer s H E) (defBody st) t ∧ t { nx := fun _ H' => Q .non H', rt := Q } (L2.start N vs) H) : FnOk P w K mg base (L2N.CX P w) (k + 1) f fd ps sp := by
  obtain ⟨_, _, _, _, _, _, cdv, _, _, rfl, lk, hcd⟩ := F.ex
  exact fn_of lk hcd S len fun A outer s H vs Q E hr hsp => hb cdv A outer s H vs Q E hr hsp

/-! ## a def by its body -/
/-- what a def with this body does: n parameters, s names -/
def runB (B : SS) (n s : Nat) : Fn := fun ds φ => match B (ds.map some ++ List.replicate (s - n) none) φ with
  | .nx _ φ' => .ok .non φ'
  | .rt d φ' => .ok d φ'
  | .ex x l _ φ' => .ex x l φ'
  | _ => .bad
theorem args_start {K : PySem.W.Frag} {f : Addr} {Z H : Hp} {pm : List Bool} {vs : List V} {ds : List D} {r : Nat} (rs : RArgs K f Z H pm vs ds) {i : Nat} {d : D} (h : (ds.map some ++ List.replicate r none)[i]? = some (some d)) :
    ∃ b v, pm[i]? = some b ∧ (vs.map some ++ List.replicate r none)[i]? = some (some v) ∧ Res (Wm b) K f H Z H v d := by
  obtain ⟨hl1, hl2⟩ := rs.lens
  by_cases hi : i < ds.length
  · rw [List.getElem?_append_left (by simpa using hi), List.getElem?_map] at h
    cases e : ds[i]? with
    | none => rw [e] at h; cases h
    | some x =>
      rw [e] at h
      cases h
      obtain ⟨b, y, h0, h1, h2⟩ := rs.at_ e
      refine ⟨b, y, h0, ?_, h2⟩
      rw [List.getElem?_append_left (by rw [List.length_map]; omega), List.getElem?_map, h1] <;> rfl
  · rw [List.getElem?_append_right (by simpa using hi), List.getElem?_replicate] at h
    split at h <;> cases h
/-- how the slots stand at the start -/
def ownS (pm : List Bool) (n : Nat) : List Ms := pm.map (fun b => if b = true then Ms.p else .s) ++ List.replicate (n - pm.length) .s
theorem ownS_get {pm : List Bool} {n i : Nat} {x : Ms} (h : (ownS pm n)[i]? = some x) : (∃ b, pm[i]? = some b ∧ x = if b = true then Ms.p else .s) ∨ (pm.length ≤ i ∧ x = .s) := by
  unfold ownS at h
  by_cases hi : i < pm.length
  · rw [List.getElem?_append_left (by simpa using hi), List.getElem?_map] at h
    cases e : pm[i]? with
    | none => rw [e] at h; cases h
    | some b => rw [e] at h; cases h; exact .inl ⟨b, rfl, rfl⟩
  · rw [List.getElem?_append_right (by simpa using hi), List.getElem?_replicate] at h
    split at h
    · cases h; exact .inr ⟨by omega, rfl⟩
    · cases h
theorem rep_s {n i : Nat} {x : Ms} (hx : x ≠ .s) : (List.replicate n Ms.s)[i]? ≠ some x := by
  rw [List.getElem?_replicate]
  split
  · intro h; exact hx (Option.some.inj h).symm
  · intro h; cases h
theorem ownS_no {pm : List Bool} {n i : Nat} : (ownS pm n)[i]? ≠ some .o := by
  intro h
  rcases ownS_get h with ⟨b, _, e⟩ | ⟨_, e⟩
  · cases b <;> cases e
  · cases e
section
variable {P : Program} {w : World} {K : PySem.W.Frag} {mg : Str → Option Value} {base : Heap}
theorem fn_sem {cls : Str → Option (Addr × List Str)} {x qual : Str} {st : Stmt} {f : Addr} {fd : FuncData} {N ps : List Str} {k : Nat} (F : Fun K x qual st f fd) (S : FnScope N ps (defScope st)) (pm : List Bool) (hpm : pm.length = ps.length) (m : Md) (B : SS) {on : List Ms}
    (D : ∀ (cdv : Value) (A : Around) (outer : List Env) (s : Shared) (H : Hp) (E : XK) (cf : Addr) (cZ cH : Hp) (s0 : L2.St) (r0 : En), Room k (A.deeper (envOfC qual (defScope st) s.heap.objs.size f cdv)) →
      SJs (cxOf (L2N.CX P w) P w K mg base N qual (defScope st) f cdv A outer s H E) ⟨K, cf, cZ, cH, cls, s0, r0⟩ ⟨m, fun cls d _ H => E cls d H, fun _ => True, []⟩ (ownS pm N.length) on (defBody st) B) :
    FnOk P w K mg base (L2N.CX P w) (k + 1) f fd ps (spF cls K pm m (runB B ps.length N.length)) := by
  refine okXN F S (fun vs H Q E h => ?_) (fun cdv A outer s H vs Q E hr h => ?_)
  · obtain ⟨f, Z, ds, φ, _, rs, _⟩ := h
    rw [rs.lens.1, hpm]
  · obtain ⟨f, Z, ds, φ, wf, rs, h⟩ := h
    have hl : ds.length = ps.length := by rw [rs.lens.2, hpm]
    have hv : vs.length = ps.length := by rw [rs.lens.1, hpm]
    have hst : L2.start N vs = vs.map some ++ List.replicate (N.length - ps.length) none := by
      unfold L2.start
      rw [hv]
    refine ⟨_, D cdv A outer s H E f Z H (L2.start N vs) (ds.map some ++ List.replicate (N.length - ps.length) none) hr, Z, ds.map some ++ List.replicate (N.length - ps.length) none, φ, ⟨wf, Ext.refl, ?_, fun i d h1 _ h3 => ?_, fun i d _ h2 => absurd h2 ownS_no, fun i j a d e _ h1 => absurd h1 ownS_no, fun i d h1 h2 => ⟨h1, rfl⟩, fun i d h1 h2 => ?_⟩, ?_⟩
    · rw [hst]
      simp only [List.length_append, List.length_map, List.length_replicate]
      rw [hv, hl]
    · rw [hst]
      obtain ⟨b, v, e1, e2, r⟩ := args_start rs h1
      refine ⟨v, e2, ?_⟩
      cases b with
      | false => exact r
      | true =>
        refine absurd ?_ h3
        unfold ownS
        rw [List.getElem?_append_left (by rw [List.length_map]; exact (List.getElem?_eq_some_iff.mp e1).1), List.getElem?_map, e1]
        rfl
    · rw [hst]
      obtain ⟨b, v, e1, e2, r⟩ := args_start rs h1
      refine ⟨v, e2, ?_⟩
      cases b with
      | false => exact .inl r
      | true => exact r
    · unfold runB at h
      cases e : B (ds.map some ++ List.replicate (N.length - ps.length) none) φ with
      | nx ρ φ' => rw [e] at h; exact fun σ Z' H' _ R0 => h .non Z' H' R0.ext R0.wf (Res.of_flat .non rfl)
      | rt d φ' => rw [e] at h; exact fun v Z' H' e' w' r => h v Z' H' e' w' r
      | ex y l ρ φ' => rw [e] at h; exact fun cl dx σ Z' H' ow _ R0 r => h cl dx Z' H' R0.ext R0.wf r
      | bk ρ φ' => rw [e] at h; exact h.elim
      | ct ρ φ' => rw [e] at h; exact h.elim
      | bad => rw [e] at h; exact h.elim
theorem cal_of {cls : Str → Option (Addr × List Str)} {x : Str} {k : Nat} {pm : List Bool} {m : Md} {F : Fn} {f : Addr} {fd : FuncData} {ps : List Str} (h1 : mg x = some (.ref f)) (h2 : PySem.W.keepIn K (.ref f) = true) (h3 : Binds K fd ps []) (h4 : FnOk P w K mg base (L2N.CX P w) k f fd ps (spF cls K pm m F)) :
    Cal P w K mg base cls x k pm m F := ⟨⟨f, fd, ps, h1, h2, h3, h4⟩⟩
end

/-- a statement's reading where what is fixed is chosen later -/
theorem PSs.later {X : Cx} {sts : List Stmt} {ι : Type} {t : ι → TS} (h : ∀ i, PSs X sts (t i)) : PSs X sts (fun D σ H => ∃ i, t i D σ H) := ⟨fun pins s σ H D I ⟨i, q⟩ => (h i).run pins s σ H D I q⟩

/-! ## the feed -/
def Fd.step (φ : Fd) : Fd :=
  if φ.told = 0 ∧ φ.pos < φ.cells.length then
    let cell : Int := ((φ.cells.getD φ.pos.toNat 0).natAbs : Nat)
    if cell ≥ 1000000000000000000 then { φ with pos := φ.pos + 1, told := cell }
    else { φ with pos := φ.pos + 1, st := (φ.st * 48271 + cell * 69621 + (φ.pos + 1)) % 2147483647 }
  else φ
/-- a drawn number, and the feed behind it -/
def Fd.draw (φ : Fd) (many : Int) : Int × Fd :=
  let ψ := φ.step
  if ψ.told > 0 then (ψ.told % many, { ψ with told := ψ.told / many })
  else
    let s : Int := (ψ.st * 16807 + 12345) % 2147483647
    ((s * s + s) % 2147483629 / 11 % many, { ψ with st := s })
def drawF : Fn := fun ds φ => match ds with
  | [.feed, .int m] => if (0 < m ∧ m < 1073741824) ∧ 0 ≤ φ.told then .ok (.int (φ.draw m).1) (φ.draw m).2 else .bad
  | _ => .bad
theorem Fd.step_ok {φ : Fd} (h : φ.Ok) : φ.step.Ok := by
  obtain ⟨n, a0, a1, t0, s0, s1⟩ := h
  unfold Fd.step
  split
  · rename_i hc
    dsimp only
    split
    · exact ⟨n, by show 0 ≤ φ.pos + 1; omega, by show φ.pos + 1 ≤ (φ.cells.length : Int); omega, by show (0 : Int) ≤ ((φ.cells.getD φ.pos.toNat 0).natAbs : Nat); omega, s0, s1⟩
    · exact ⟨n, by show 0 ≤ φ.pos + 1; omega, by show φ.pos + 1 ≤ (φ.cells.length : Int); omega, t0, Int.emod_nonneg _ (by decide), Int.emod_lt_of_pos _ (by decide)⟩
  · exact ⟨n, a0, a1, t0, s0, s1⟩
theorem Fd.draw_ok {φ : Fd} (h : φ.Ok) {m : Int} (hm : 0 < m) : (φ.draw m).2.Ok := by
  obtain ⟨n, a0, a1, t0, s0, s1⟩ := Fd.step_ok h
  unfold Fd.draw
  dsimp only
  split
  · exact ⟨n, a0, a1, Int.ediv_nonneg t0 (Int.le_of_lt hm), s0, s1⟩
  · exact ⟨n, a0, a1, t0, Int.emod_nonneg _ (by decide), Int.emod_lt_of_pos _ (by decide)⟩
theorem Fd.draw_range (φ : Fd) {m : Int} (hm : 0 < m) : 0 ≤ (φ.draw m).1 ∧ (φ.draw m).1 < m := by
  unfold Fd.draw
  dsimp only
  split
  · exact ⟨Int.emod_nonneg _ (by omega), Int.emod_lt_of_pos _ hm⟩
  · exact ⟨Int.emod_nonneg _ (by omega), Int.emod_lt_of_pos _ hm⟩
/-! ## the law's own def -/
def spFeed (K : PySem.W.Frag) : Sp := fun vs H Q _ => ∃ (a : Addr) (ns : List Int), vs = [.ref a] ∧ SqL K H a (ns.map V.int) ∧
  ∀ s p, H s = none → H p = none → p ≠ s → Q (.ref p) (upd (upd H s (.lst (ns.map V.int))) p (.lst [.ref s, .int 0, .int 0, .int 1]))
def spLaw (K : PySem.W.Frag) : Sp := fun vs H Q _ => ∃ (a : Addr) (ns : List Int), vs = [.ref a] ∧ SqL K H a (ns.map V.int) ∧ ns.length ≤ 63 ∧ ∀ H', Q (.bl true) H'
/-- what is frozen as a law starts: the script's copy, and every tuple -/
def law0 (H1 : Hp) (t : Addr) (ns : List Int) : Hp := fun b =>
  if b = t then some (.lst (ns.map V.int)) else match H1 b with
    | some (.tup xs) => some (.tup xs)
    | _ => none
section
variable {P : Program} {w : World} {K : PySem.W.Frag} {mg : Str → Option Value} {base : Heap}
/-- the law's body behind its first row, feed = _law_feed(script): j is feed's slot -/
theorem law_sem {cls : Str → Option (Addr × List Str)} {qual x : Str} {st st0 : Stmt} {rest : List Stmt} {f : Addr} {fd : FuncData} {N : List Str} {k j : Nat} (F : Fun K x qual st f fd) (S : FnScope N ["script"] (defScope st)) (m : Md) (B : SS) {on : List Ms}
    (hb : defBody st = st0 :: rest) (hj : 0 < j) (hjn : j < N.length)
    (D0 : ∀ (cdv : Value) (A : Around) (outer : List Env) (s : Shared) (H : Hp) (E : XK), Room k (A.deeper (envOfC qual (defScope st) s.heap.objs.size f cdv)) →
      PS (cxOf (L2N.CX P w) P w K mg base N qual (defScope st) f cdv A outer s H E) st0 (tAsg (tCall (spFeed K) [] E0 (tCons (tVar 0) tNil)) (gName j)))
    (D : ∀ (cdv : Value) (A : Around) (outer : List Env) (s : Shared) (H : Hp) (E : XK) (cf : Addr) (cZ cH : Hp) (s0 : L2.St) (r0 : En), Room k (A.deeper (envOfC qual (defScope st) s.heap.objs.size f cdv)) →
      SJs (cxOf (L2N.CX P w) P w K mg base N qual (defScope st) f cdv A outer s H E) ⟨K, cf, cZ, cH, cls, s0, r0⟩ ⟨m, fun cls d _ H => E cls d H, fun _ => True, []⟩ (List.replicate N.length .s) on rest B)
    (hB : ∀ φ : Fd, φ.Ok → ∃ φ', B ((List.replicate N.length none).set j (some .feed)) φ = .rt (.bl true) φ') :
    FnOk P w K mg base (L2N.CX P w) (k + 1) f fd ["script"] (spLaw K) := by
  refine okXN F S (fun vs H Q E h => ?_) (fun cdv A outer s H vs Q E hr h => ?_)
  · obtain ⟨a, ns, rfl, _⟩ := h
    rfl
  · obtain ⟨a, ns, rfl, hs, hl, q⟩ := h
    have D1 := PSs.later (ι := Addr × Hp × Hp) fun i => D cdv A outer s H E i.1 i.2.1 i.2.2 [] [] hr
    refine ⟨_, by rw [hb]; exact pss_cons (D0 cdv A outer s H E hr) D1, ?_⟩
    have h0 : (L2.start N [V.ref a])[0]? = some (some (.ref a)) := rfl
    refine ⟨.ref a, h0, a, ns, rfl, hs, fun t p ht hp hne => ?_⟩
    have hpt : (upd (upd H t (.lst (ns.map V.int))) p (.lst [.ref t, .int 0, .int 0, .int 1])) p = some (.lst [.ref t, .int 0, .int 0, .int 1]) := upd_same
    have htt : (upd (upd H t (.lst (ns.map V.int))) p (.lst [.ref t, .int 0, .int 0, .int 1])) t = some (.lst (ns.map V.int)) := by
      rw [upd_ne (Ne.symm hne)]
      exact upd_same
    generalize upd (upd H t (.lst (ns.map V.int))) p (.lst [.ref t, .int 0, .int 0, .int 1]) = H1 at hpt htt
    have ok0 : Fd.Ok ⟨ns, 0, 0, 1⟩ := ⟨hl, Int.le_refl _, Int.natCast_nonneg _, Int.le_refl _, by show (0 : Int) ≤ 1; decide, by show (1 : Int) < 2147483647; decide⟩
    have wf : Wf K p (law0 H1 t ns) H1 ⟨ns, 0, 0, 1⟩ := by
      refine ⟨fun b o e => ?_, ?_, ⟨(t, _), .inr ⟨if_pos rfl, rfl⟩, hpt⟩, fun _ => ok0, fun b xs e => ?_⟩
      · unfold law0 at e
        by_cases hb : b = t
        · rw [if_pos hb] at e; cases e; rw [hb]; exact htt
        · rw [if_neg hb] at e
          split at e
          · rename_i hx
            cases e
            exact hx
          · cases e
      · unfold law0
        rw [if_neg hne, hpt]
      · unfold law0
        by_cases hb : b = t
        · rw [hb, htt] at e; cases e
        · rw [if_neg hb, e]
    obtain ⟨φ', hφ⟩ := hB ⟨ns, 0, 0, 1⟩ ok0
    refine ⟨(p, (law0 H1 t ns), H1), (law0 H1 t ns), (List.replicate N.length (none : Option Pf.D)).set j (some .feed), ⟨ns, 0, 0, 1⟩, ⟨wf, Ext.refl, ?_, fun i d h1 _ _ => ?_, fun i d _ h2 => absurd h2 (rep_s (by decide)), fun i j a d e _ h1 => absurd h1 (rep_s (by decide)), fun i d _ h2 => ?_, fun i d _ h2 => absurd h2 (rep_s (by decide))⟩, ?_⟩
    · unfold L2.start
      simp only [List.length_set, List.length_append, List.length_map, List.length_replicate, List.length_cons, List.length_nil]
      omega
    · rcases get_set h1 with ⟨rfl, e⟩ | ⟨hi, e⟩
      · cases e
        refine ⟨.ref p, List.getElem?_set_self ?_, .feed⟩
        unfold L2.start
        simp only [List.length_append, List.length_map, List.length_replicate, List.length_cons, List.length_nil]
        omega
      · rw [List.getElem?_replicate] at e
        split at e <;> cases e
    · rcases h2 with h2 | h2
      · exact absurd h2 (rep_s (by decide))
      · exact absurd h2 (rep_s (by decide))
    · rw [hφ]
      intro v Z' H' _ _ r
      have hv : v = .bl true := Res.bl r
      rw [hv]
      exact q H'
end
section
variable {X : Cx}
/-- xs[i] by values, as a += reads it -/
theorem get_lst : PGet X (fun o i H Q => ∃ p xs k v, o = .ref p ∧ i = .int k ∧ 0 ≤ k ∧ k < 2 ^ 63 ∧ SqL X.K H p xs ∧ xs[k.toNat]? = some v ∧ Q v H) := by
  intro pins s σ H o i ov iv Q I r1 r2 h
  obtain ⟨p, xs, k, v, rfl, rfl, h0, h1, hq, he, q⟩ := h
  cases r1
  obtain ⟨t, rfl⟩ := r2
  obtain ⟨its, r, pl, hz⟩ := I.list hq
  obtain ⟨u, eu, ru⟩ := r.get he
  exact wpAny_getItem_list pl.isList h0 h1 (by simpa using eu) ⟨v, H, I, ru, q⟩
end
end Pf

set_option Elab.async false
set_option linter.all false
set_option maxRecDepth 100000
set_option maxHeartbeats 4000000
namespace Pf
open PySem PySem.Spec PyProof.Rows L2

/-! ## drawing from the feed: the body of the law's own draw, read once -/
def ixf (K : PySem.W.Frag) (k : Int) : TE := tOp (rIxL K) (tVar 0) (tC (V.int k))
def rgI : R2 := rI0 fun i j => V.int (i + j)
def rmI : R2 := rI CMul fun i j => V.int (i * j)
def reI : R2 := rI (fun _ j => 0 < j) fun i j => V.int (i % j)
def rdI : R2 := rI CDiv fun i j => V.int (i / j)
def rIntC : List V → Hp → VK → Prop := fun xs H Q => (∃ i, xs = [V.int i] ∧ Q (V.int i) H) ∨ ∃ k, xs = [V.bl k] ∧ Q (V.int (if k = true then 1 else 0)) H
def tInt (t : TE) : TE := tCB rIntC (tCons t tNil)
def rGet (K : PySem.W.Frag) : V → V → Hp → VK → Prop := fun o i H Q => ∃ p xs k v, o = .ref p ∧ i = .int k ∧ 0 ≤ k ∧ k < 2 ^ 63 ∧ SqL K H p xs ∧ xs[k.toNat]? = some v ∧ Q v H
def tDrawA (K : PySem.W.Frag) : TS := tIfS (tAnd (tTest (tOp rEq (ixf K 2) (tC (.int 0)))) (tTest (tOp (rI0 fun i j => V.bl (decide (i < j))) (ixf K 1) (tCB (fun xs H Q => ∃ p ys, xs = [.ref p] ∧ (SqL K H p ys ∨ SqT K H p ys) ∧ Q (.int ys.length) H) (tCons (ixf K 0) tNil)))))
  (tSeq (tAsg (tCB (fun xs H Q => ∃ i, xs = [.int i] ∧ Q (.int (if i < 0 then -i else i)) H) (tCons (tInt (tOp (rIxL K) (ixf K 0) (ixf K 1))) tNil)) (gName 2))
    (tSeq (tAugS (tVar 0) (tC (.int 1)) (tC (.int 1)) (rGet K) (ipI fun i j => i + j) rSetL)
      (tIfS (tTest (tOp (rI0 fun i j => V.bl (decide (j ≤ i))) (tVar 2) (tOp (rI CPow fun i j => V.int (i ^ j.toNat)) (tC (.int 10)) (tC (.int 18)))))
        (tAsg (tVar 2) (L2.gSub (tVar 0) (tC (.int 2)) rSetL))
        (tAsg (tOp reI (tInt (tOp rgI (tOp rgI (tOp rmI (ixf K 3) (tC (.int 48271))) (tOp rmI (tVar 2) (tC (.int 69621)))) (ixf K 1))) (tC (.int 2147483647))) (L2.gSub (tVar 0) (tC (.int 3)) rSetL)))))
  tNext
def tDrawB (K : PySem.W.Frag) : TS := tSeq (tIfS (tTest (tOp (rI0 fun i j => V.bl (decide (j < i))) (ixf K 2) (tC (.int 0))))
    (tSeq (tAsg (tOp reI (tInt (ixf K 2)) (tVar 1)) (gName 3)) (tSeq (tAsg (tOp rdI (ixf K 2) (tVar 1)) (L2.gSub (tVar 0) (tC (.int 2)) rSetL)) (tRet (tVar 3)))) tNext)
  (tSeq (tAsg (tOp reI (tInt (tOp rgI (tOp rmI (ixf K 3) (tC (.int 16807))) (tC (.int 12345)))) (tC (.int 2147483647))) (L2.gSub (tVar 0) (tC (.int 3)) rSetL))
    (tSeq (tAsg (tOp reI (tInt (tOp rgI (tOp rmI (ixf K 3) (ixf K 3)) (ixf K 3))) (tC (.int 2147483629))) (gName 4))
      (tRet (tOp reI (tOp rdI (tVar 4) (tC (.int 11))) (tVar 1)))))
section
variable {K : PySem.W.Frag} {f s : Addr} {σ : L2.St} {H : Hp} {xs : List V} {Q : VK}
theorem ixr {k : Nat} {v : V} (h0 : σ[0]? = some (some (.ref f))) (hf : H f = some (.lst xs)) (hx : xs[k]? = some v) (q : Q v H) : ixf K (k : Int) σ H Q :=
  ⟨_, h0, f, xs, k, v, rfl, rfl, SqL.of hf, atI_nat hx, q⟩
theorem tInt_of {t : TE} {i : Int} (h : t σ H fun v H' => v = .int i ∧ Q (.int i) H') (mono : ∀ Q Q' : VK, (∀ v H, Q v H → Q' v H) → t σ H Q → t σ H Q') : tInt t σ H Q :=
  mono _ _ (fun v H' ⟨e, q⟩ => .inl ⟨i, by rw [e], q⟩) h
theorem ifT {b : Bool} {A B : Prop} (hb : b = true) (h : A) : if b = true then A else B := by
  rw [if_pos hb]
  exact h
theorem ifF {b : Bool} {A B : Prop} (hb : b = false) (h : B) : if b = true then A else B := by
  rw [if_neg (by rw [hb]; decide)]
  exact h
/-- the feed's cell as the record has it -/
abbrev fdL (s : Addr) (φ : Fd) : List V := [.ref s, .int φ.pos, .int φ.told, .int φ.st]
theorem pow18 : (10 : Int) ^ (18 : Int).toNat = 1000000000000000000 := by decide
/-- the first half: a cell of the script comes in -/
theorem drawA_read {φ : Fd} {m : Int} {D : Ends} (ok : φ.Ok) (hs : H s = some (.lst (φ.cells.map V.int))) (hf : H f = some (.lst (fdL s φ))) (hsf : s ≠ f)
    (q : ∀ y, D.nx [some (.ref f), some (.int m), y, none, none] (upd H f (.lst (fdL s φ.step)))) : tDrawA K D [some (.ref f), some (.int m), none, none, none] H := by
  obtain ⟨n, a0, a1, t0, s0, s1⟩ := ok
  have hself : upd H f (.lst (fdL s φ)) = H := by
    funext b
    by_cases hb : b = f
    · rw [hb, upd_same, hf]
    · rw [upd_ne hb]
  show ixf K 2 _ _ _
  refine ixr (k := 2) rfl hf rfl ⟨rfl, ?_⟩
  refine ⟨_, rfl, ?_⟩
  by_cases ht : φ.told = 0
  · refine ifT (by rw [ht]; decide) ?_
    refine ixr (k := 1) rfl hf rfl (ixr (k := 0) rfl hf rfl ⟨s, _, rfl, .inl (SqL.of hs), _, _, rfl, rfl, _, rfl, ?_⟩)
    rw [List.length_map]
    by_cases hp : φ.pos < φ.cells.length
    · refine ifT (decide_eq_true hp) ?_
      obtain ⟨j, hj⟩ : ∃ j : Nat, φ.pos = j := ⟨φ.pos.toNat, by omega⟩
      have hjl : j < φ.cells.length := by omega
      have hget : φ.cells.getD φ.pos.toNat 0 = φ.cells[j] := by
        rw [hj, Int.toNat_natCast, List.getD_eq_getElem?_getD, List.getElem?_eq_getElem hjl] <;> rfl
      have hst : φ.step = if ((φ.cells[j].natAbs : Nat) : Int) ≥ 1000000000000000000 then { φ with pos := φ.pos + 1, told := ((φ.cells[j].natAbs : Nat) : Int) } else { φ with pos := φ.pos + 1, st := (φ.st * 48271 + ((φ.cells[j].natAbs : Nat) : Int) * 69621 + (φ.pos + 1)) % 2147483647 } := by
        unfold Fd.step
        rw [if_pos ⟨ht, hp⟩]
        dsimp only
        rw [hget]
      have habs : (if φ.cells[j] < 0 then -φ.cells[j] else φ.cells[j]) = ((φ.cells[j].natAbs : Nat) : Int) := by split <;> omega
      refine ixr (k := 0) rfl hf rfl (ixr (k := 1) rfl hf rfl ⟨s, _, φ.pos, .int φ.cells[j], rfl, rfl, SqL.of hs, ?_, .inl ⟨_, rfl, ⟨_, rfl, ?_⟩⟩⟩)
      · rw [hj]
        exact atI_nat (by rw [List.getElem?_map, List.getElem?_eq_getElem hjl] <;> rfl)
      · rw [habs]
        generalize ((φ.cells[j].natAbs : Nat) : Int) = cell at hst
        -- feed[1] += 1
        refine ⟨.ref f, rfl, f, _, 1, .int φ.pos, rfl, rfl, by decide, by decide, SqL.of hf, rfl, _, _, rfl, rfl, f, fdL s φ, 1, 1, rfl, rfl, hf, rfl, ?_⟩
        have hf1 : upd H f (.lst ((fdL s φ).set 1 (.int (φ.pos + 1)))) f = some (.lst [.ref s, .int (φ.pos + 1), .int φ.told, .int φ.st]) := upd_same
        refine ⟨.int cell, rfl, _, _, rfl, rfl, ⟨by decide, by decide, by decide⟩, _, _, rfl, rfl, _, rfl, ?_⟩
        rw [pow18]
        by_cases hc : (1000000000000000000 : Int) ≤ cell
        · refine ifT (decide_eq_true hc) ?_
          rw [if_pos hc] at hst
          refine ⟨.int cell, rfl, .ref f, rfl, f, _, 2, 2, rfl, rfl, hf1, rfl, ?_⟩
          rw [upd_upd]
          have := q (some (.int cell))
          rw [hst] at this
          exact this
        · refine ifF (decide_eq_false hc) ?_
          rw [if_neg hc] at hst
          refine ixr (k := 3) rfl hf1 rfl ⟨_, _, rfl, rfl, .inl (by omega), .int cell, rfl, _, _, rfl, rfl, .inr (by omega), _, _, rfl, rfl, ?_⟩
          refine ixr (k := 1) rfl hf1 rfl ⟨_, _, rfl, rfl, .inl ⟨_, rfl, _, _, rfl, rfl, (by decide : (0 : Int) < 2147483647), ?_⟩⟩
          refine ⟨.ref f, rfl, f, _, 3, 3, rfl, rfl, hf1, rfl, ?_⟩
          rw [upd_upd]
          have := q (some (.int cell))
          rw [hst] at this
          exact this
    · refine ifF (decide_eq_false hp) ?_
      have hst : φ.step = φ := by unfold Fd.step; rw [if_neg fun h => hp h.2]
      have := q none
      rw [hst, hself] at this
      exact this
  · have e : decide (V.int φ.told = V.int 0) = false := decide_eq_false fun h => ht (V.int.inj h)
    refine ifF e ?_
    have hst : φ.step = φ := by unfold Fd.step; rw [if_neg fun h => ht h.1]
    have := q none
    rw [hst, hself] at this
    exact this
/-- the second half: a number is drawn -/
theorem drawB_read {φ : Fd} {m : Int} {D : Ends} {y : Option V} (ok : φ.Ok) (hm : 0 < m) (hm2 : m < 1073741824) (hf : H f = some (.lst (fdL s φ)))
    (q : D.rt (.int (if φ.told > 0 then φ.told % m else ((φ.st * 16807 + 12345) % 2147483647 * ((φ.st * 16807 + 12345) % 2147483647) + (φ.st * 16807 + 12345) % 2147483647) % 2147483629 / 11 % m))
      (upd H f (.lst (fdL s (if φ.told > 0 then { φ with told := φ.told / m } else { φ with st := (φ.st * 16807 + 12345) % 2147483647 }))))) : tDrawB K D [some (.ref f), some (.int m), y, none, none] H := by
  obtain ⟨n, a0, a1, t0, s0, s1⟩ := ok
  show ixf K 2 _ _ _
  refine ixr (k := 2) rfl hf rfl ⟨_, _, rfl, rfl, _, rfl, ?_⟩
  by_cases ht : φ.told > 0
  · refine ifT (decide_eq_true ht) ?_
    rw [if_pos ht, if_pos ht] at q
    refine ixr (k := 2) rfl hf rfl (.inl ⟨_, rfl, .int m, rfl, _, _, rfl, rfl, hm, ?_⟩)
    refine ixr (k := 2) rfl hf rfl ⟨.int m, rfl, _, _, rfl, rfl, ⟨hm, hm2⟩, .ref f, rfl, f, _, 2, 2, rfl, rfl, hf, rfl, _, rfl, q⟩
  · refine ifF (decide_eq_false ht) ?_
    rw [if_neg ht, if_neg ht] at q
    refine ixr (k := 3) rfl hf rfl ⟨_, _, rfl, rfl, .inl (by omega), _, _, rfl, rfl, .inl ⟨_, rfl, _, _, rfl, rfl, (by decide : (0 : Int) < 2147483647), ?_⟩⟩
    have b0 : 0 ≤ (φ.st * 16807 + 12345) % 2147483647 := Int.emod_nonneg _ (by decide)
    have b1 : (φ.st * 16807 + 12345) % 2147483647 < 2147483647 := Int.emod_lt_of_pos _ (by decide)
    refine ⟨.ref f, rfl, f, _, 3, 3, rfl, rfl, hf, rfl, ?_⟩
    have hf1 : upd H f (.lst ((fdL s φ).set 3 (.int ((φ.st * 16807 + 12345) % 2147483647)))) f = some (.lst [.ref s, .int φ.pos, .int φ.told, .int ((φ.st * 16807 + 12345) % 2147483647)]) := upd_same
    refine ixr (k := 3) rfl hf1 rfl (ixr (k := 3) rfl hf1 rfl ⟨_, _, rfl, rfl, .inl (by omega), ?_⟩)
    refine ixr (k := 3) rfl hf1 rfl ⟨_, _, rfl, rfl, .inl ⟨_, rfl, _, _, rfl, rfl, (by decide : (0 : Int) < 2147483629), ?_⟩⟩
    exact ⟨_, rfl, _, _, rfl, rfl, ⟨by decide, by decide⟩, .int m, rfl, _, _, rfl, rfl, hm, q⟩
/-- the whole body keeps the promise -/
theorem draw_read {cls : Str → Option (Addr × List Str)} {N : List Str} {vs : List V} {E : XK} (hN : N.length = 5) (h : spF cls K [false, false] .s drawF vs H Q E) : tSeq (tDrawA K) (tDrawB K) { nx := fun _ H' => Q .non H', rt := Q } (L2.start N vs) H := by
  obtain ⟨f, Z, ds, φ, wf, rs, h⟩ := h
  obtain ⟨hl1, hl2⟩ := rs.lens
  match ds, vs, hl1, hl2, rs, h with
  | [d, e], [x, y], _, _, rs, h =>
    cases d with
    | feed =>
      cases e with
      | int m =>
        have h' : (match (if (0 < m ∧ m < 1073741824) ∧ 0 ≤ φ.told then O.ok (.int (φ.draw m).1) (φ.draw m).2 else .bad : O D) with
          | .ok d φ' => ∀ v Z' H', Ext f Z H Z' H' → Wf K f Z' H' φ' → Res .s K f H Z' H' v d → Q v H'
          | .ex x l φ' => ∀ cl dx Z' H', Ext f Z H Z' H' → Wf K f Z' H' φ' → XRep ⟨K, f, Z, H, cls, [], []⟩ Z' H' x l cl dx → E cl dx H'
          | .bad => False) := h
        by_cases hmm : (0 < m ∧ m < 1073741824) ∧ 0 ≤ φ.told
        · rw [if_pos hmm] at h'
          obtain ⟨hm, htd⟩ := hmm
          · obtain ⟨r1, r2, _⟩ := rs
            · obtain rfl := Res.feed (m := .s) (H0 := H) (H := H) r1
              obtain rfl := Res.int (m := .s) (H0 := H) (H := H) r2
              have wok := wf.ok htd
              obtain ⟨⟨s, so⟩, hs, hf⟩ := wf.feed
              rcases hs with ⟨hs, _⟩ | ⟨hs, hso⟩
              · exact absurd hs (by omega)
              simp only at hs hso hf
              rw [hso] at hf
              have hsf : s ≠ f := fun e => by rw [e, wf.zf] at hs; cases hs
              have hst : L2.start N [.ref f, .int m] = [some (.ref f), some (.int m), none, none, none] := by
                unfold L2.start
                rw [hN] <;> rfl
              rw [hst]
              refine drawA_read wok (wf.sub _ _ hs) hf hsf fun y => ?_
              refine drawB_read (φ := φ.step) (Fd.step_ok wok) hm.1 hm.2 upd_same ?_
              rw [upd_upd]
              have e1 : (φ.draw m).1 = (if φ.step.told > 0 then φ.step.told % m else ((φ.step.st * 16807 + 12345) % 2147483647 * ((φ.step.st * 16807 + 12345) % 2147483647) + (φ.step.st * 16807 + 12345) % 2147483647) % 2147483629 / 11 % m) := by
                unfold Fd.draw
                dsimp only
                split <;> rfl
              have e2 : (φ.draw m).2 = (if φ.step.told > 0 then { φ.step with told := φ.step.told / m } else { φ.step with st := (φ.step.st * 16807 + 12345) % 2147483647 }) := by
                unfold Fd.draw
                dsimp only
                split <;> rfl
              have hcells : (φ.draw m).2.cells = φ.cells := by
                rw [e2]
                have : φ.step.cells = φ.cells := by
                  unfold Fd.step
                  split
                  · dsimp only; split <;> rfl
                  · rfl
                split <;> exact this
              rw [← e1, ← e2]
              have ok2 := Fd.draw_ok wok hm.1
              have up : ∀ b u, b ≠ f → H b = some u → upd H f (.lst (fdL s (φ.draw m).2)) b = some u := fun b u hb q => by rw [upd_ne hb]; exact q
              refine h' _ Z _ ⟨fun _ _ q => q, fun b u hb q => up b u hb q, fun b q => ?_, fun _ _ q => q, fun o e => ?_⟩ ⟨fun b u q => up b u (fun e => by rw [e, wf.zf] at q; cases q) (wf.sub b u q), wf.zf, ⟨(s, _), .inr ⟨by rw [hcells]; exact hs, rfl⟩, upd_same⟩, fun _ => ok2, wf.tt.upd (fun _ h => by cases h)⟩ (Rep.int _)
              · by_cases hb : b = f
                · rw [hb, upd_same]; simp
                · rw [upd_ne hb]; exact q
              · rw [hf] at e
                cases e
                exact ⟨_, upd_same, .inr ⟨_, _, _, rfl, rfl⟩⟩
        · rw [if_neg hmm] at h'
          exact h'.elim
      | _ => exact h.elim
    | _ => exact h.elim
end
end Pf

set_option Elab.async false
set_option linter.all false
set_option maxRecDepth 100000
set_option maxHeartbeats 4000000
namespace Pf
open PySem PySem.Spec PyProof.Rows L2

/-! ## a op b op c -/
def eCh (g g' : D → D → Option D) (A B C : SX) : SX := fun ρ φ => (A ρ φ).bind fun d φ1 => (B ρ φ1).bind fun e φ2 => match g d e with
  | some (.bl true) => (C ρ φ2).bind fun z φ3 => ofO (g' e z) φ3
  | some (.bl false) => .ok (.bl false) φ2
  | _ => .bad
section
variable {X : Cx} {c : Ct} {own : List Ms} {m : Md} {W : WX} {pos : Pos} {a b d : Expr} {A B C : SX}
theorem ch_core {r r' : R2} {g g' : D → D → Option D} (hg : OpG r .o c g) (hg' : OpG r' .o c g') {σ : L2.St} {H : Hp} {Q : VK} (h : tE c own .o W (eCh g g' A B C) σ H Q) :
    tChain r r' (tE c own .p W A) (tE c own .p W B) (tE c own .p W C) σ H Q := by
  obtain ⟨Z, ρ, φ, R, h⟩ := h
  refine ⟨Z, ρ, φ, R, Post.bindE h fun d φ1 x Z1 H1 e1 w1 r1 h1 => ?_⟩
  refine ⟨Z1, ρ, φ1, R.more e1 w1, Post.bindE h1 fun e φ2 y Z2 H2 e2 w2 r2 h2 => ?_⟩
  have r2' : Res .p c.K c.f H2 Z2 H2 y e := r2
  have R2 := (R.more e1 w1).more e2 w2
  cases hz : g d e with
  | none => simp only [hz] at h2; exact h2.elim
  | some z =>
    cases z with
    | bl k =>
      -- the first answer
      refine hg Z2 H2 φ2 x y d e (.bl k) W0 σ _ w2 (show Res .p c.K c.f H2 Z2 H2 x d from r1.pmono e2) r2' hz ?_
      intro v Z3 H3 e3 w3 r3
      refine ⟨k, r3.bl, ?_⟩
      cases k with
      | false =>
        simp only [hz] at h2
        rw [if_neg (by decide)]
        exact h2 _ Z3 H3 e3 w3 (Res.of_flat (.bl false) rfl)
      | true =>
        simp only [hz] at h2
        rw [if_pos rfl]
        refine ⟨Z3, ρ, φ2, R2.more e3 w3, Post.bindE (h2.shift e3) fun t φ4 u Z4 H4 e4 w4 r4 h4 => ?_⟩
        obtain ⟨z', hz', h5⟩ := ofO_ok (E := fun o => Post c .o W o σ Z4 H4 Q) h4 fun z => z
        exact hg' Z4 H4 φ4 y u e t z' W σ Q w4 (show Res .p c.K c.f H4 Z4 H4 y e from (r2'.pmono e3).pmono e4) (show Res .p c.K c.f H4 Z4 H4 u t from r4) hz' h5
    | _ => simp only [hz] at h2; exact h2.elim
theorem x_ch {op op' : CmpOp} {r r' : R2} {g g' : D → D → Option D} (ho : OpR X (compareOp op) r) (ho' : OpR X (compareOp op') r') (hg : OpG r .o c g) (hg' : OpG r' .o c g') (ha : EX X c own .p W a A) (hb : EX X c own .p W b B) (hd : EX X c own .p W d C)
    (hm : lastMarks [op, op'] [b, d] = false := by with_unfolding_all rfl) : EX X c own .o W (.Compare a [op, op'] [b, d] pos) (eCh g g' A B C) := PE.weak (pe_chain ho ho' ha hb hd hm) fun _ _ _ h => ch_core hg hg' h
theorem b_ch {op op' : CmpOp} {r r' : R2} {g g' : D → D → Option D} (ho : OpR X (compareOp op) r) (ho' : OpR X (compareOp op') r') (hg : OpG r .o c g) (hg' : OpG r' .o c g') (ha : EX X c own .p W a A) (hb : EX X c own .p W b B) (hd : EX X c own .p W d C)
    (hm : lastMarks [op, op'] [b, d] = false := by with_unfolding_all rfl) : BX X c own W (.Compare a [op, op'] [b, d] pos) (bVal (eCh g g' A B C)) := by
  refine PT.weak (pt_chain ho ho' ha hb hd hm) ?_
  rintro σ H Q ⟨Z, ρ, φ, R, h⟩
  show tChain r r' _ _ _ σ H fun x H' => ∃ k, x = .bl k ∧ Q k H'
  refine ch_core (A := A) (B := B) (C := C) hg hg' ⟨Z, ρ, φ, R, ?_⟩
  refine Post.bindB h fun d φ1 v Z1 H1 e1 w1 r1 h1 => ?_
  cases d with
  | bl b => exact ⟨b, r1.bl, h1 Z1 H1 .refl w1⟩
  | _ => exact h1.elim
theorem gLt_ok : OpG (rI0 fun i j => .bl (decide (i < j))) m c gLt := gIB_ok
theorem gLe_ok : OpG (rI0 fun i j => .bl (decide (i ≤ j))) m c gLe := gIB_ok
theorem gGt_ok : OpG (rI0 fun i j => .bl (decide (j < i))) m c gGt := gIB_ok
theorem gGe_ok : OpG (rI0 fun i j => .bl (decide (j ≤ i))) m c gGe := gIB_ok
end

/-! ## comprehensions of two clauses -/
/-- the inner turns: what they add -/
def lc2In (T1 : Tg) (tst1 : SB) (elt : SX) (ρ : En) : List D → Fd → O (List D) := lcGo T1 tst1 elt ρ
def lc2Go (T : Tg) (tst : SB) (I1 : SA) (T1 : Tg) (tst1 : SB) (elt : SX) (vs1 : List Nat) (ρ : En) : List D → Fd → O (List D)
  | [], φ => .ok [] φ
  | d :: ds, φ => match T d ρ with
    | none => .bad
    | some ρ1 => match tst ρ1 φ with
      | .ok true φ1 => match I1 ρ1 φ1 with
        | .ok es φ2 => match lcGo T1 tst1 elt (wipeE ρ1 vs1) es φ2 with
          | .ok xs φ3 => match lc2Go T tst I1 T1 tst1 elt vs1 ρ ds φ3 with
            | .ok ys φ4 => .ok (xs ++ ys) φ4
            | _ => .bad
          | _ => .bad
        | _ => .bad
      | .ok false φ1 => lc2Go T tst I1 T1 tst1 elt vs1 ρ ds φ1
      | _ => .bad
def eLc2 (I : SA) (T : Tg) (tst : SB) (I1 : SA) (T1 : Tg) (tst1 : SB) (elt : SX) (vs vs1 : List Nat) : SX := fun ρ φ => (I ρ φ).bind fun ds φ1 => match lc2Go T tst I1 T1 tst1 elt vs1 (wipeE ρ vs) ds φ1 with
  | .ok ys φ2 => if ys.length ≤ sizeLine then .ok (.lst ys) φ2 else .bad
  | _ => .bad
theorem lc2Go_cons {T : Tg} {tst : SB} {I1 : SA} {T1 : Tg} {tst1 : SB} {elt : SX} {vs1 : List Nat} {ρ : En} {d : D} {ds ys : List D} {φ φ' : Fd} (h : lc2Go T tst I1 T1 tst1 elt vs1 ρ (d :: ds) φ = .ok ys φ') :
    ∃ ρ1 b φ1, T d ρ = some ρ1 ∧ tst ρ1 φ = .ok b φ1 ∧ ((b = false ∧ lc2Go T tst I1 T1 tst1 elt vs1 ρ ds φ1 = .ok ys φ') ∨
      (b = true ∧ ∃ es φ2 xs φ3 r, I1 ρ1 φ1 = .ok es φ2 ∧ lcGo T1 tst1 elt (wipeE ρ1 vs1) es φ2 = .ok xs φ3 ∧ lc2Go T tst I1 T1 tst1 elt vs1 ρ ds φ3 = .ok r φ' ∧ ys = xs ++ r)) := by
  unfold lc2Go at h
  cases e1 : T d ρ with
  | none => rw [e1] at h; cases h
  | some ρ1 =>
    rw [e1] at h
    cases e2 : tst ρ1 φ with
    | ex _ _ _ => simp only [e2] at h; cases h
    | bad => simp only [e2] at h; cases h
    | ok b φ1 =>
      cases b with
      | false => simp only [e2] at h; exact ⟨ρ1, false, φ1, rfl, e2, .inl ⟨rfl, h⟩⟩
      | true =>
        simp only [e2] at h
        cases e3 : I1 ρ1 φ1 with
        | ex _ _ _ => simp only [e3] at h; cases h
        | bad => simp only [e3] at h; cases h
        | ok es φ2 =>
          simp only [e3] at h
          cases e4 : lcGo T1 tst1 elt (wipeE ρ1 vs1) es φ2 with
          | ex _ _ _ => simp only [e4] at h; cases h
          | bad => simp only [e4] at h; cases h
          | ok xs φ3 =>
            simp only [e4] at h
            cases e5 : lc2Go T tst I1 T1 tst1 elt vs1 ρ ds φ3 with
            | ex _ _ _ => simp only [e5] at h; cases h
            | bad => simp only [e5] at h; cases h
            | ok r φ4 =>
              simp only [e5] at h
              cases h
              exact ⟨ρ1, true, φ1, rfl, e2, .inr ⟨rfl, es, φ2, xs, φ3, r, e3, e4, e5, rfl⟩⟩
/-- the new list within the turns: D holds acc, what stood stands -/
structure Lcs (c : Ct) (Z1 H1 : Hp) (D : Addr) (Zn Hn : Hp) (φn : Fd) (accV : List V) (acc : List Pf.D) : Prop where
  en : Ext c.f Z1 H1 Zn Hn
  nD : Zn D = none
  wn : Wf c.K c.f Zn Hn φn
  hD : Hn D = some (.lst accV)
  ra : Reps c.K c.f Zn accV acc
theorem Lcs.more {c : Ct} {Z1 H1 Zn Hn Z' H' : Hp} {D : Addr} {φn φ' : Fd} {accV : List V} {acc : List Pf.D} (L : Lcs c Z1 H1 D Zn Hn φn accV acc) (hDf : D ≠ c.f) (e : Ext c.f Zn Hn Z' H') (w : Wf c.K c.f Z' H' φ') : Lcs c Z1 H1 D Z' H' φ' accV acc :=
  ⟨L.en.trans e, e.n D (by rw [L.hD]; simp) L.nD, w, e.h D _ hDf L.hD, L.ra.mono e.z⟩
theorem Lcs.push {c : Ct} {Z1 H1 Zn Hn : Hp} {D : Addr} {φn : Fd} {accV : List V} {acc : List Pf.D} {v : V} {y : Pf.D} (L : Lcs c Z1 H1 D Zn Hn φn accV acc) (hD1 : H1 D = none) (hDf : D ≠ c.f) (r : Rep c.K c.f Zn v y) :
    Lcs c Z1 H1 D Zn (upd Hn D (.lst (accV ++ [v]))) φn (accV ++ [v]) (acc ++ [y]) := by
  refine ⟨⟨L.en.z, fun a o ha hh => ?_, fun a ha => ?_, L.en.n, L.en.d.trans (.same (upd_ne (Ne.symm hDf)))⟩, L.nD, ⟨fun a o ha => ?_, L.wn.zf, ?_, L.wn.ok, L.wn.tt.upd (fun _ h => by cases h)⟩, upd_same, L.ra.app (.cons r .nil)⟩
  · rw [upd_ne (ne_of_none hh hD1)]; exact L.en.h a o ha hh
  · by_cases hb : a = D
    · rw [hb, upd_same]; simp
    · rw [upd_ne hb]; exact L.en.k a ha
  · rw [upd_ne (fun e => by rw [e, L.nD] at ha; cases ha)]; exact L.wn.sub a o ha
  · obtain ⟨s, k1, k2⟩ := L.wn.feed
    exact ⟨s, k1, by rw [upd_ne (Ne.symm hDf)]; exact k2⟩
theorem Lcs.start {c : Ct} {Z1 H1 : Hp} {D : Addr} {φ1 : Fd} (w1 : Wf c.K c.f Z1 H1 φ1) (hD : H1 D = none) (hDf : D ≠ c.f) : Lcs c Z1 H1 D Z1 (upd H1 D (.lst [])) φ1 [] [] := by
  have up : ∀ b u, H1 b = some u → upd H1 D (.lst []) b = some u := fun b u e => by rw [upd_ne (ne_of_none e hD)]; exact e
  have hz : Z1 D = none := by
    cases e : Z1 D with
    | none => rfl
    | some u => rw [w1.sub D u e] at hD; cases hD
  refine ⟨⟨fun _ _ e => e, fun b u _ e => up b u e, fun b hb => ?_, fun _ _ e => e, .same (upd_ne (Ne.symm hDf))⟩, hz, ⟨fun b u e => up b u (w1.sub b u e), w1.zf, ?_, w1.ok, w1.tt.upd (fun _ h => by cases h)⟩, upd_same, .nil⟩
  · cases e : H1 b with
    | none => exact absurd e hb
    | some u => rw [up b u e]; simp
  · obtain ⟨s, k1, k2⟩ := w1.feed
    exact ⟨s, k1, up _ _ k2⟩
section
variable {X : Cx} {c : Ct} {own o1 o2 : List Ms} {W : WX} {pos : Pos}
theorem lc2_read {I I1 : SA} {T T1 : Tg} {tst tst1 : SB} {elt : SX} {vs vs1 is is1 : List Nat} {σ : L2.St} {H : Hp} {Q : VK} (his : ∀ j ∈ is, j ∈ vs) (his1 : ∀ j ∈ is1, j ∈ vs1) (hvs : ∀ j ∈ vs1, j ∈ vs) (h : tE c own .o W (eLc2 I T tst I1 T1 tst1 elt vs vs1) σ H Q) :
    tLc2 (tI c own true W I) (tT c (ownB own vs) o1 is T) (tB c o1 W0 tst) (tI c o1 false W0 I1) (tT c (ownB o1 vs1) o2 is1 T1) (tB c o2 W0 tst1) (tE c o2 .s W0 elt) vs vs1 σ H Q := by
  obtain ⟨Z, ρ, φ, R, h⟩ := h
  refine ⟨Z, ρ, φ, R, ?_⟩
  unfold eLc2 at h
  cases hI : I ρ φ with
  | bad => rw [hI] at h; exact h
  | ex y l φ' => rw [hI] at h; exact h
  | ok ds φ1 =>
    rw [hI] at h
    intro J Z1 H1 e1 w1 wk D hD
    have hgo : ∃ ys φ2, lc2Go T tst I1 T1 tst1 elt vs1 (wipeE ρ vs) ds φ1 = .ok ys φ2 ∧ ys.length ≤ sizeLine ∧ Post c .o W (.ok (.lst ys) φ2) σ Z H Q := by
      have h' : Post c .o W (match lc2Go T tst I1 T1 tst1 elt vs1 (wipeE ρ vs) ds φ1 with
        | .ok ys φ2 => if ys.length ≤ sizeLine then .ok (.lst ys) φ2 else .bad
        | _ => .bad) σ Z H Q := h
      cases hg : lc2Go T tst I1 T1 tst1 elt vs1 (wipeE ρ vs) ds φ1 with
      | bad => rw [hg] at h'; exact h'.elim
      | ex _ _ _ => rw [hg] at h'; exact h'.elim
      | ok ys φ2 =>
        rw [hg] at h'
        obtain ⟨h1, h2⟩ := iteO_ok (E := fun o => Post c .o W o σ Z H Q) h' fun z => z
        exact ⟨ys, φ2, rfl, h1, h2⟩
    obtain ⟨tot, φe, hgo, hsz, hpost⟩ := hgo
    have hDf : D ≠ c.f := fun e => w1.hf (by rw [← e]; exact hD)
    refine ⟨fun i m Hn => m = ds.length - i ∧ i ≤ ds.length ∧ ∃ Zn φn acc accV rest, Lcs c Z1 H1 D Zn Hn φn accV acc ∧ lc2Go T tst I1 T1 tst1 elt vs1 (wipeE ρ vs) (ds.drop i) φn = .ok rest φe ∧ acc ++ rest = tot,
      ⟨ds.length, by simp, Nat.zero_le _, Z1, φ1, [], [], tot, .start w1 hD hDf, hgo, rfl⟩, ?_⟩
    rintro i m Hn ⟨rfl, hi, Zn, φn, acc, accV, rest, L, hg, ht⟩
    obtain ⟨wk1, wk2⟩ := wk i Zn Hn φn ⟨L.en.z, fun _ => L.en.h, ((R.more e1 w1).ext.trans L.en).h⟩ L.wn
    by_cases hlt : i < ds.length
    · obtain ⟨d, hd⟩ : ∃ d, ds[i]? = some d := ⟨_, List.getElem?_eq_getElem hlt⟩
      obtain ⟨go, step⟩ := wk2 d hd
      rw [List.drop_eq_getElem_cons hlt] at hg
      have hdd : ds[i] = d := by
        rw [List.getElem?_eq_getElem hlt] at hd
        exact Option.some.inj hd
      rw [hdd] at hg
      obtain ⟨ρ1, b, φt, hT, htst, hcase⟩ := lc2Go_cons hg
      refine .inr ⟨go, fun H' => ∃ m', m' < ds.length - i ∧ (m' = ds.length - (i + 1) ∧ i + 1 ≤ ds.length ∧ ∃ Zn φn acc accV rest, Lcs c Z1 H1 D Zn H' φn accV acc ∧ lc2Go T tst I1 T1 tst1 elt vs1 (wipeE ρ vs) (ds.drop (i + 1)) φn = .ok rest φe ∧ acc ++ rest = tot), fun H' h => h, fun x Hx hx => ?_⟩
      obtain ⟨Zx, ex, wx, rx⟩ := step x Hx hx
      have Lx := L.more hDf ex wx
      have Rb : Rl c (ownB own vs) Zx (wipeE ρ vs) φn (L2.wipe σ vs) Hx := ((R.more e1 w1).more Lx.en wx).block vs
      refine ⟨Zx, wipeE ρ vs, φn, d, ρ1, Rb, rx, hT, fun σ2 tr agr => ⟨?_, Zx, ρ1, φn, tr Zx Hx φn Sub.refl Rb, ?_⟩⟩
      · have hh : L2.wipe σ2 vs = L2.wipe (L2.wipe σ vs) vs := agr.wipe his
        rw [hh]
        refine Agr.wipe (is := vs) ⟨wipe_length _ _, fun j hj => wipe_out hj⟩ fun j h => h
      · rw [htst]
        intro Z3 H3 e3 w3
        have L3 := Lx.more hDf e3 w3
        rcases hcase with ⟨rfl, hr⟩ | ⟨rfl, es, φi, xs, φx, r, hI1, hin, hr, hys⟩
        · rw [if_neg (by decide)]
          exact ⟨ds.length - (i + 1), by omega, rfl, hlt, Z3, φt, acc, accV, rest, L3, hr, ht⟩
        · rw [if_pos rfl]
          have R3 := (tr Zx Hx φn Sub.refl Rb).more e3 w3
          refine ⟨Z3, ρ1, φt, R3, ?_⟩
          rw [hI1]
          intro J1 Z4 H4 e4 w4 wk4
          have L4 := L3.more hDf e4 w4
          have R4 := R3.more e4 w4
          -- the inner walk
          refine ⟨fun j k Hm => k = es.length - j ∧ j ≤ es.length ∧ ∃ Zm φm acc' accV' rest', Lcs c Z1 H1 D Zm Hm φm accV' acc' ∧ Sub Z4 Zm ∧ lcGo T1 tst1 elt (wipeE ρ1 vs1) (es.drop j) φm = .ok rest' φx ∧ acc' ++ rest' = acc ++ xs,
            ⟨es.length, by simp, Nat.zero_le _, Z4, φi, acc, accV, xs, L4, Sub.refl, hin, rfl⟩, ?_⟩
          rintro j k Hm ⟨rfl, hj, Zm, φm, acc', accV', rest', Lm, em, hgm, htm⟩
          obtain ⟨vk1, vk2⟩ := wk4 j Zm Hm φm ⟨em, fun e => absurd e (by decide), ((R.more e1 w1).ext.trans Lm.en).h⟩ Lm.wn
          by_cases hjl : j < es.length
          · obtain ⟨d1, hd1⟩ : ∃ d, es[j]? = some d := ⟨_, List.getElem?_eq_getElem hjl⟩
            obtain ⟨go1, step1⟩ := vk2 d1 hd1
            rw [List.drop_eq_getElem_cons hjl] at hgm
            have hdd1 : es[j] = d1 := by
              rw [List.getElem?_eq_getElem hjl] at hd1
              exact Option.some.inj hd1
            rw [hdd1] at hgm
            obtain ⟨ρ2, b1, φu, hT1, htst1, hcase1⟩ := lcGo_cons hgm
            refine .inr ⟨go1, fun H' => ∃ k', k' < es.length - j ∧ (k' = es.length - (j + 1) ∧ j + 1 ≤ es.length ∧ ∃ Zm φm acc' accV' rest', Lcs c Z1 H1 D Zm H' φm accV' acc' ∧ Sub Z4 Zm ∧ lcGo T1 tst1 elt (wipeE ρ1 vs1) (es.drop (j + 1)) φm = .ok rest' φx ∧ acc' ++ rest' = acc ++ xs), fun H' h => h, fun x1 Hy hy => ?_⟩
            obtain ⟨Zy, ey, wy, ry⟩ := step1 x1 Hy hy
            have Ly := Lm.more hDf ey wy
            have kxy : Sub Zx Zy := ((Sub.trans e3.z e4.z).trans em).trans ey.z
            have Ry : Rl c o1 Zy ρ1 φm σ2 Hy := tr Zy Hy φm kxy (((R.more e1 w1).more Ly.en wy).block vs)
            have Rb1 : Rl c (ownB o1 vs1) Zy (wipeE ρ1 vs1) φm (L2.wipe σ2 vs1) Hy := Ry.block vs1
            refine ⟨Zy, wipeE ρ1 vs1, φm, d1, ρ2, Rb1, ry, hT1, fun σ3 tr1 agr1 => ⟨?_, Zy, ρ2, φm, tr1 Zy Hy φm Sub.refl Rb1, ?_⟩⟩
            · have hh : L2.wipe σ3 vs1 = L2.wipe (L2.wipe σ2 vs1) vs1 := agr1.wipe his1
              rw [hh]
              refine Agr.wipe (is := vs1) ⟨wipe_length _ _, fun j hj => wipe_out hj⟩ fun j h => h
            · rw [htst1]
              intro Z6 H6 e6 w6
              have L6 := Ly.more hDf e6 w6
              rcases hcase1 with ⟨rfl, hr1⟩ | ⟨rfl, y, φy, r1, hy1, hr1, hys1⟩
              · rw [if_neg (by decide)]
                exact ⟨es.length - (j + 1), by omega, rfl, hjl, Z6, φu, acc', accV', rest', L6, (em.trans ey.z).trans e6.z, hr1, htm⟩
              · rw [if_pos rfl]
                refine ⟨Z6, ρ2, φu, (tr1 Zy Hy φm Sub.refl Rb1).more e6 w6, ?_⟩
                rw [hy1]
                intro v Z7 H7 e7 w7 r7
                have r7' : Rep c.K c.f Z7 v y := r7
                have L7 := L6.more hDf e7 w7
                have hacc : accV'.length < sizeLine := by
                  have g1 := Lm.ra.length
                  have g2 : (acc ++ rest).length ≤ sizeLine := by rw [ht]; exact hsz
                  have g3 := congrArg List.length htm
                  rw [hys1] at g3
                  rw [hys] at g2
                  simp only [List.length_append, List.length_cons] at g2 g3
                  omega
                exact ⟨accV', L7.hD, hacc, es.length - (j + 1), by omega, rfl, hjl, Z7, φy, acc' ++ [y], accV' ++ [v], r1, L7.push hD hDf r7', ((em.trans ey.z).trans e6.z).trans e7.z, hr1, by rw [List.append_assoc, ← htm, hys1]; rfl⟩
          · have hje : j = es.length := by omega
            refine .inl ⟨vk1 hje, ?_⟩
            rw [hje, List.drop_length] at hgm
            cases hgm
            rw [List.append_nil] at htm
            exact ⟨ds.length - (i + 1), by omega, rfl, hlt, Zm, φx, acc', accV', r, Lm, hr, by rw [htm, List.append_assoc, ← hys]; exact ht⟩
    · have hie : i = ds.length := by omega
      refine .inl ⟨wk1 hie, ?_⟩
      rw [hie, List.drop_length] at hg
      cases hg
      rw [List.append_nil] at ht
      subst ht
      have e2 := e1.trans L.en
      refine hpost (.ref D) Zn Hn e2 L.wn ?_
      show Res .o c.K c.f H Zn Hn (.ref D) (.lst acc)
      unfold Res
      rw [if_pos (by rfl)]
      refine ⟨D, .lst accV, rfl, ?_, L.nD, hDf, L.hD, .lst L.ra⟩
      cases e : H D with
      | none => rfl
      | some u => exact absurd hD (e1.k D (by rw [e]; simp))
end
end Pf

set_option Elab.async false
set_option linter.all false
set_option maxRecDepth 100000
set_option maxHeartbeats 4000000
namespace Pf
open PySem PySem.Spec PyProof.Rows L2

/-! ## order of data -/
def ltD (d e : D) : Bool := PySem.W.dataLt d.py e.py
def okLt (d e : D) : Bool := PySem.W.alike d.py e.py && d.shp && e.shp && !d.isNon
def rCmpD (K : PySem.W.Frag) (g : PyData → PyData → Bool) : R2 := fun x y H Q => ∃ d e, Dp K H x d ∧ Dp K H y e ∧ PySem.W.alike d e = true ∧ SeqAt.shaped d = true ∧ d ≠ .none ∧ Q (.bl (g d e)) H
section
variable {X : Cx}
theorem room_min {d e : PyData} {n : Nat} (sd : SeqAt.shaped d = true) (hu : n + 64 < cLine) : n + min d.depth e.depth < cLine := by
  have := SeqAt.depth_of_shaped sd
  omega
theorem op_ltD (hu : X.A.units + 64 < cLine) : OpR X (compareOp .Lt) (rCmpD X.K fun d e => PySem.W.dataLt d e) := by
  intro pins s σ H x y v u Q I rx ry h
  obtain ⟨d, e, hd, he, al, sd, hn, q⟩ := h
  obtain ⟨as, r1⟩ := Dp.reads I d x v hd rx
  obtain ⟨bs, r2⟩ := Dp.reads I e y u he ry
  exact PySem.W.lt_data r1 r2 al hn (room_min sd hu) ⟨.bl _, H, I, rfl, q⟩
theorem op_gtD (hu : X.A.units + 64 < cLine) : OpR X (compareOp .Gt) (rCmpD X.K fun d e => PySem.W.dataLt e d) := by
  intro pins s σ H x y v u Q I rx ry h
  obtain ⟨d, e, hd, he, al, sd, hn, q⟩ := h
  obtain ⟨as, r1⟩ := Dp.reads I d x v hd rx
  obtain ⟨bs, r2⟩ := Dp.reads I e y u he ry
  exact PySem.W.gt_data r1 r2 al hn (room_min sd hu) ⟨.bl _, H, I, rfl, q⟩
theorem op_leD (hu : X.A.units + 64 < cLine) : OpR X (compareOp .LtE) (rCmpD X.K fun d e => !PySem.W.dataLt e d) := by
  intro pins s σ H x y v u Q I rx ry h
  obtain ⟨d, e, hd, he, al, sd, hn, q⟩ := h
  obtain ⟨as, r1⟩ := Dp.reads I d x v hd rx
  obtain ⟨bs, r2⟩ := Dp.reads I e y u he ry
  exact PySem.W.le_data r1 r2 al hn (room_min sd hu) ⟨.bl _, H, I, rfl, q⟩
theorem op_geD (hu : X.A.units + 64 < cLine) : OpR X (compareOp .GtE) (rCmpD X.K fun d e => !PySem.W.dataLt d e) := by
  intro pins s σ H x y v u Q I rx ry h
  obtain ⟨d, e, hd, he, al, sd, hn, q⟩ := h
  obtain ⟨as, r1⟩ := Dp.reads I d x v hd rx
  obtain ⟨bs, r2⟩ := Dp.reads I e y u he ry
  exact PySem.W.ge_data r1 r2 al hn (room_min sd hu) ⟨.bl _, H, I, rfl, q⟩
end
def gLtD : D → D → Option D := fun d e => if okLt d e = true then some (.bl (ltD d e)) else none
def gGtD : D → D → Option D := fun d e => if okLt d e = true then some (.bl (ltD e d)) else none
def gLeD : D → D → Option D := fun d e => if okLt d e = true then some (.bl (!ltD e d)) else none
def gGeD : D → D → Option D := fun d e => if okLt d e = true then some (.bl (!ltD d e)) else none
theorem okLt_ok {d e : D} (h : okLt d e = true) : PySem.W.alike d.py e.py = true ∧ d.shp = true ∧ e.shp = true ∧ d.py ≠ .none := by
  unfold okLt at h
  simp only [Bool.and_eq_true, Bool.not_eq_true'] at h
  obtain ⟨⟨⟨h1, h2⟩, h3⟩, h4⟩ := h
  refine ⟨h1, h2, h3, ?_⟩
  intro q
  cases d <;> first | (cases q; done) | (simp [D.isNon] at h4)
section
variable {X : Cx} {c : Ct} {own : List Ms} {m : Md} {W : WX} {a b : Expr} {A B : SX} {pos : Pos}
theorem cmpD_ok {g : PyData → PyData → Bool} : OpG (rCmpD c.K g) m c (fun d e => if okLt d e = true then some (.bl (g d.py e.py)) else none) := by
  intro Z H φ x y d e z W σ Q w rx ry hg h
  obtain ⟨hs, rfl⟩ := ifs hg
  obtain ⟨h1, h2, h3, h4⟩ := okLt_ok hs
  exact ⟨_, _, rx.dp w (SeqAt.canLay_of_shaped h2), ry.dp w (SeqAt.canLay_of_shaped h3), h1, h2, h4, h.nowB w⟩
theorem gLtD_ok : OpG (rCmpD c.K fun d e => PySem.W.dataLt d e) m c gLtD := cmpD_ok
theorem gGtD_ok : OpG (rCmpD c.K fun d e => PySem.W.dataLt e d) m c gGtD := cmpD_ok
theorem gLeD_ok : OpG (rCmpD c.K fun d e => !PySem.W.dataLt e d) m c gLeD := cmpD_ok
theorem gGeD_ok : OpG (rCmpD c.K fun d e => !PySem.W.dataLt d e) m c gGeD := cmpD_ok
theorem x_ltD (hK : X.K = c.K) (hu : X.A.units + 64 < cLine) (ha : EX X c own .p W a A) (hb : EX X c own .p W b B) : EX X c own .o W (.Compare a [.Lt] [b] pos) (eBin gLtD A B) := x_cmp (op_ltD hu) (by rw [hK]; exact gLtD_ok) ha hb (nomark _)
theorem x_gtD (hK : X.K = c.K) (hu : X.A.units + 64 < cLine) (ha : EX X c own .p W a A) (hb : EX X c own .p W b B) : EX X c own .o W (.Compare a [.Gt] [b] pos) (eBin gGtD A B) := x_cmp (op_gtD hu) (by rw [hK]; exact gGtD_ok) ha hb (nomark _)
theorem x_leD (hK : X.K = c.K) (hu : X.A.units + 64 < cLine) (ha : EX X c own .p W a A) (hb : EX X c own .p W b B) : EX X c own .o W (.Compare a [.LtE] [b] pos) (eBin gLeD A B) := x_cmp (op_leD hu) (by rw [hK]; exact gLeD_ok) ha hb (nomark _)
theorem x_geD (hK : X.K = c.K) (hu : X.A.units + 64 < cLine) (ha : EX X c own .p W a A) (hb : EX X c own .p W b B) : EX X c own .o W (.Compare a [.GtE] [b] pos) (eBin gGeD A B) := x_cmp (op_geD hu) (by rw [hK]; exact gGeD_ok) ha hb (nomark _)
theorem b_ltD (hK : X.K = c.K) (hu : X.A.units + 64 < cLine) (ha : EX X c own .p W a A) (hb : EX X c own .p W b B) : BX X c own W (.Compare a [.Lt] [b] pos) (bCmp gLtD A B) := b_cmp (op_ltD hu) (by rw [hK]; exact gLtD_ok) ha hb (nomark _)
theorem b_gtD (hK : X.K = c.K) (hu : X.A.units + 64 < cLine) (ha : EX X c own .p W a A) (hb : EX X c own .p W b B) : BX X c own W (.Compare a [.Gt] [b] pos) (bCmp gGtD A B) := b_cmp (op_gtD hu) (by rw [hK]; exact gGtD_ok) ha hb (nomark _)
theorem b_leD (hK : X.K = c.K) (hu : X.A.units + 64 < cLine) (ha : EX X c own .p W a A) (hb : EX X c own .p W b B) : BX X c own W (.Compare a [.LtE] [b] pos) (bCmp gLeD A B) := b_cmp (op_leD hu) (by rw [hK]; exact gLeD_ok) ha hb (nomark _)
theorem b_geD (hK : X.K = c.K) (hu : X.A.units + 64 < cLine) (ha : EX X c own .p W a A) (hb : EX X c own .p W b B) : BX X c own W (.Compare a [.GtE] [b] pos) (bCmp gGeD A B) := b_cmp (op_geD hu) (by rw [hK]; exact gGeD_ok) ha hb (nomark _)
end

/-! ## sorted -/
def leD (d e : D) : Bool := !ltD e d
def sortD (l : List D) : List D := l.mergeSort leD
/-- what sorted asks of the items -/
def okSort (l : List D) : Prop := (∀ d ∈ l, ∀ e ∈ l, PySem.W.alike d.py e.py = true) ∧ (∀ d ∈ l, d.shp = true) ∧ ((∀ d ∈ l, ∃ x r, d = .tup (x :: r)) ∨ ∀ d ∈ l, d ≠ .non ∧ ∀ xs, d ≠ .tup xs)
noncomputable instance okSortD (l : List D) : Decidable (okSort l) := Classical.propDecidable _
noncomputable def gSorted : List D → Option D
  | [.lst l] => if okSort l then some (.lst (sortD l)) else none
  | _ => none
theorem gSorted_l {l : List D} (h : okSort l) : gSorted [.lst l] = some (.lst (sortD l)) := by
  show (if okSort l then some (D.lst (sortD l)) else none) = _
  rw [if_pos h]
def leP (p q : V × PyData) : Bool := !PySem.W.dataLt q.2 p.2
def rSortedD (K : PySem.W.Frag) : List V → Hp → VK → Prop := fun vs H Q => ∃ (a : Addr) (ps : List (V × PyData)), vs = [V.ref a] ∧ SqL K H a (ps.map Prod.fst) ∧ (∀ p ∈ ps, Dp K H p.1 p.2) ∧ (∀ p ∈ ps, ∀ q ∈ ps, PySem.W.alike p.2 q.2 = true) ∧ (∀ p ∈ ps, SeqAt.shaped p.2 = true) ∧
  PySem.W.Sortable (ps.map Prod.snd) ∧ ∀ (p : Addr), H p = none → Q (.ref p) (upd H p (.lst ((ps.mergeSort leP).map Prod.fst)))
section
variable {X : Cx}
theorem vals_each {α : Type} {f : α → V} : ∀ {bs : List α} {vs : List Value}, Vals (bs.map f) vs → PySem.W.EachIs (fun v b => RelV (f b) v) vs bs
  | [], _, h => by cases h; exact .nil
  | b :: bs, _, h => by
    cases h with
    | cons h1 h2 => exact .cons h1 (vals_each h2)
theorem each_vals {α : Type} {f : α → V} : ∀ {bs : List α} {vs : List Value}, PySem.W.EachIs (fun v b => RelV (f b) v) vs bs → Vals (bs.map f) vs
  | [], _, h => by cases h; exact .nil
  | b :: bs, _, h => by
    cases h with
    | cons h1 h2 => exact .cons h1 (each_vals h2)
theorem each_mono {α β : Type} {R S : α → β → Prop} : ∀ {as : List α} {bs : List β}, PySem.W.EachIs R as bs → (∀ a b, b ∈ bs → R a b → S a b) → PySem.W.EachIs S as bs
  | _, _, .nil, _ => .nil
  | _, _, .cons h t, k => .cons (k _ _ List.mem_cons_self h) (each_mono t fun a b hb => k a b (List.mem_cons_of_mem _ hb))
theorem each_map {α β γ : Type} {R : α → γ → Prop} (f : β → γ) : ∀ {as : List α} {bs : List β}, PySem.W.EachIs (fun a b => R a (f b)) as bs → PySem.W.EachIs R as (bs.map f)
  | _, _, .nil => .nil
  | _, _, .cons h t => .cons h (each_map f t)
theorem cr_sortedD (hu : X.A.units + 66 < cLine) : CallR X (.builtin "sorted") (rSortedD X.K) := by
  intro pins s σ H vs us Q I r h
  obtain ⟨a, ps, rfl, hs, hd, hal, hsh, hst, q⟩ := h
  obtain ⟨its, rv, hl, hz⟩ := I.list hs
  rw [Vals.ref1 r]
  have e0 : PySem.W.EachIs (fun v (b : V × PyData) => RelV b.1 v) its ps := vals_each rv
  have keep : ∀ b o, s.heap.get? b = some o → (PySem.W.sortingHeap (PySem.W.copyHeap s.heap its) (s.heap.objs.size + 1) its).get? b = some o := fun b o e => PySem.W.sorting_copy_old e
  have e1 : PySem.W.EachIs (fun v (b : V × PyData) => RelV b.1 v ∧ ∃ as, Reads (PySem.W.sortingHeap (PySem.W.copyHeap s.heap its) (s.heap.objs.size + 1) its) v b.2 as) its ps :=
    each_mono e0 fun v b hb rb => by
      obtain ⟨as, ra⟩ := Dp.reads I b.2 b.1 v (hd b hb) rb
      exact ⟨rb, as, PyProof.Rows.Reads.keeps keep ra⟩
  have e2 := each_map (R := fun v d => ∃ as, Reads (PySem.W.sortingHeap (PySem.W.copyHeap s.heap its) (s.heap.objs.size + 1) its) v d as) Prod.snd (each_mono e1 fun _ _ _ q => q.2)
  have hAll : PySem.W.AllAlike (ps.map Prod.snd) := fun d h1 d' h2 => by
    obtain ⟨p, hp, rfl⟩ := List.mem_map.mp h1
    obtain ⟨p', hp', rfl⟩ := List.mem_map.mp h2
    exact hal p hp p' hp'
  have S := PySem.W.SortsAt.data (prog := X.prog) (w := X.w) (A := X.A.in1.in1) (s := { s with heap := PySem.W.sortingHeap (PySem.W.copyHeap s.heap its) (s.heap.objs.size + 1) its }) e2 hAll hst fun d h1 => by
    obtain ⟨p, hp, rfl⟩ := List.mem_map.mp h1
    have := SeqAt.depth_of_shaped (hsh p hp)
    show X.A.units + 1 + 1 + _ < cLine
    omega
  have hzi : its.length ≤ sizeLine := by rw [← rv.length]; exact hz
  refine PySem.W.sorted_vals hl.isList S hzi ?_
  obtain ⟨ep, he'⟩ := PyProof.Rows.sortedAll_at s.heap its (PySem.W.sortVals (PySem.W.dataKind (PySem.W.sortingHeap (PySem.W.copyHeap s.heap its) (s.heap.objs.size + 1) its) (ps.map Prod.snd)) false its its).toArray
  have kk : PySem.W.EachIs (fun v (b : V × PyData) => (PySem.W.dataKind (PySem.W.sortingHeap (PySem.W.copyHeap s.heap its) (s.heap.objs.size + 1) its) (ps.map Prod.snd)).keyOf v = some (PySem.W.keyToks b.2)) its ps :=
    each_mono e1 fun v b hb ⟨_, as, ra⟩ => PySem.W.dataKind_some hAll (List.mem_map.mpr ⟨b, hb, rfl⟩) ra
  have out := PySem.W.sortVals_each (κ := PySem.W.dataKind (PySem.W.sortingHeap (PySem.W.copyHeap s.heap its) (s.heap.objs.size + 1) its) (ps.map Prod.snd)) (rev := false) (fun b : V × PyData => PySem.W.keyToks b.2) e0 kk
  have hle : PySem.W.sortLe (listOrd itemOrd) false (fun b : V × PyData => PySem.W.keyToks b.2) = leP := rfl
  have out' : Vals ((ps.mergeSort leP).map Prod.fst) (PySem.W.sortVals (PySem.W.dataKind (PySem.W.sortingHeap (PySem.W.copyHeap s.heap its) (s.heap.objs.size + 1) its) (ps.map Prod.snd)) false its its) := each_vals out
  have hlen : ((ps.mergeSort leP).map Prod.fst).length ≤ sizeLine := by
    rw [List.length_map, (List.mergeSort_perm _ _).length_eq]
    rw [List.length_map] at hz
    exact hz
  exact ⟨.ref _, upd H (s.heap.objs.size + 1) (.lst ((ps.mergeSort leP).map Prod.fst)), I.laid (t' := s.toks) (fun _ _ => PyProof.Rows.sortedAll_old) (Nat.le_succ _) ⟨hlen, _, ep, out', he'⟩, rfl, q _ (I.hok.fresh (Nat.le_succ _))⟩
end
theorem reps_zip {K : PySem.W.Frag} {f : Addr} {Z : Hp} : ∀ {vs : List V} {ds : List D}, Reps K f Z vs ds → (vs.zip ds).map Prod.fst = vs ∧ (vs.zip ds).map Prod.snd = ds ∧ ∀ p ∈ vs.zip ds, Rep K f Z p.1 p.2
  | _, _, .nil => ⟨rfl, rfl, fun p h => by cases h⟩
  | _, _, .cons r s => by
    obtain ⟨h1, h2, h3⟩ := reps_zip s
    refine ⟨by simp [h1], by simp [h2], fun p hp => ?_⟩
    rw [List.zip_cons_cons] at hp
    rcases List.mem_cons.mp hp with rfl | hp
    · exact r
    · exact h3 p hp
theorem reps_of_zip {K : PySem.W.Frag} {f : Addr} {Z : Hp} : ∀ {ps : List (V × D)}, (∀ p ∈ ps, Rep K f Z p.1 p.2) → Reps K f Z (ps.map Prod.fst) (ps.map Prod.snd)
  | [], _ => .nil
  | p :: ps, h => .cons (h p List.mem_cons_self) (reps_of_zip fun q hq => h q (List.mem_cons_of_mem _ hq))
theorem sorted_core {c : Ct} {Z H : Hp} {φ : Fd} {a : Addr} {vs : List V} {ds : List D} {Q : VK} {W : WX} {σ : L2.St} (w : Wf c.K c.f Z H φ) (hl : SqL c.K H a vs) (rs : Reps c.K c.f Z vs ds) (ok : okSort ds) (h : Post c .o W (.ok (.lst (sortD ds)) φ) σ Z H Q) : rSortedD c.K [.ref a] H Q := by
  obtain ⟨h1, h2, h3⟩ := reps_zip rs
  obtain ⟨o1, o2, o3⟩ := ok
  have mem : ∀ p ∈ vs.zip ds, p.2 ∈ ds := fun p hp => by rw [← h2]; exact List.mem_map.mpr ⟨p, hp, rfl⟩
  refine ⟨a, (vs.zip ds).map fun p => (p.1, p.2.py), rfl, ?_, ?_, ?_, ?_, ?_, ?_⟩
  · rw [List.map_map]
    show SqL c.K H a ((vs.zip ds).map Prod.fst)
    rw [h1]
    exact hl
  · intro p hp
    obtain ⟨q, hq, rfl⟩ := List.mem_map.mp hp
    exact Dp.mono w.sub (Rep.dp (h3 q hq) (SeqAt.canLay_of_shaped (o2 _ (mem q hq))))
  · intro p hp p' hp'
    obtain ⟨q, hq, rfl⟩ := List.mem_map.mp hp
    obtain ⟨q', hq', rfl⟩ := List.mem_map.mp hp'
    exact o1 _ (mem q hq) _ (mem q' hq')
  · intro p hp
    obtain ⟨q, hq, rfl⟩ := List.mem_map.mp hp
    exact o2 _ (mem q hq)
  · rcases o3 with o3 | o3
    · refine .inl fun d hd => ?_
      obtain ⟨p, hp, rfl⟩ := List.mem_map.mp hd
      obtain ⟨q, hq, rfl⟩ := List.mem_map.mp hp
      obtain ⟨x, r, e⟩ := o3 _ (mem q hq)
      refine ⟨x.py, D.pys r, ?_⟩
      show q.2.py = _
      rw [e]
      rfl
    · refine .inr fun d hd => ?_
      obtain ⟨p, hp, rfl⟩ := List.mem_map.mp hd
      obtain ⟨q, hq, rfl⟩ := List.mem_map.mp hp
      obtain ⟨n1, n2⟩ := o3 _ (mem q hq)
      refine ⟨fun e => n1 ?_, fun xs e => ?_⟩
      · cases hh : q.2 <;> rw [hh] at e <;> first | rfl | (cases e; done)
      · cases hh : q.2 <;> rw [hh] at e <;> first | exact n2 _ hh | (cases e; done)
  · have e : ((vs.zip ds).map fun p => (p.1, p.2.py)).mergeSort leP = ((vs.zip ds).mergeSort fun p q => leD p.2 q.2).map fun p => (p.1, p.2.py) :=
      (List.map_mergeSort (f := fun p : V × D => (p.1, p.2.py)) (r := fun p q => leD p.2 q.2) (s := leP) fun a _ b _ => rfl).symm
    rw [e, List.map_map]
    have e2 : ((vs.zip ds).mergeSort fun p q => leD p.2 q.2).map Prod.snd = sortD ds := by
      have := List.map_mergeSort (f := Prod.snd) (r := fun p q : V × D => leD p.2 q.2) (s := leD) (l := vs.zip ds) fun a _ b _ => rfl
      rw [this, h2]
      rfl
    have rs' : Reps c.K c.f Z (((vs.zip ds).mergeSort fun p q => leD p.2 q.2).map Prod.fst) (sortD ds) := by
      rw [← e2]
      exact reps_of_zip fun p hp => h3 p ((List.mergeSort_perm _ _).mem_iff.mp hp)
    exact h.newO w (.lst rs')
theorem gSorted_ok {c : Ct} : CallG (rSortedD c.K) .o c gSorted := by
  intro Z H φ xs ds z W σ Q w r hg h
  match ds, hg, r with
  | [.lst l], hg, r =>
    obtain ⟨x, rfl, rr⟩ := r.one
    have hg' : (if okSort l then some (D.lst (sortD l)) else none) = some z := hg
    obtain ⟨ok, rfl⟩ := ifs hg'
    obtain ⟨p, vs, rfl, hp, q⟩ := rr.lst w
    exact sorted_core w (SqL.of hp) q ok h

/-! ## comprehensions of two clauses: as expressions, and bound to a name -/
section
variable {X : Cx} {c : Ct} {w : Ow} {own o1 o2 : List Ms} {W : WX} {pos : Pos}
theorem x_lc2 {elt tg iter tg1 iter1 : Expr} {ifs ifs1 : List Expr} {scope : Scope} (nm : List (Str × Nat)) {is is1 : List Nat} (vs1 : List Nat) {I I1 : SA} {T T1 : Tg} {tst tst1 : SB} {elt' : SX} (hc : X.calm = true) (hN : X.N.Nodup) (ok : blkC X.N X.env.scope scope nm = true)
    (hi : IJ X c own true W tg iter I)
    (hg : ∀ (s : Shared) (H : Hp) (C : Addr) (cl : List (Str × Addr)) (fp : List Addr), TJ (X.blk s H scope (compEnvC scope cl C X.env) fp) c (ownB own (nm.map (·.2))) o1 is tg T)
    (ht : ∀ (s : Shared) (H : Hp) (C : Addr) (cl : List (Str × Addr)) (fp : List Addr), PTs (X.blk s H scope (compEnvC scope cl C X.env) fp) ifs (tB c o1 W0 tst))
    (hi1 : ∀ (s : Shared) (H : Hp) (C : Addr) (cl : List (Str × Addr)) (fp : List Addr), IJ (X.blk s H scope (compEnvC scope cl C X.env) fp) c o1 false W0 tg1 iter1 I1)
    (hg1 : ∀ (s : Shared) (H : Hp) (C : Addr) (cl : List (Str × Addr)) (fp : List Addr), TJ (X.blk s H scope (compEnvC scope cl C X.env) fp) c (ownB o1 vs1) o2 is1 tg1 T1)
    (ht1 : ∀ (s : Shared) (H : Hp) (C : Addr) (cl : List (Str × Addr)) (fp : List Addr), PTs (X.blk s H scope (compEnvC scope cl C X.env) fp) ifs1 (tB c o2 W0 tst1))
    (he : ∀ (s : Shared) (H : Hp) (C : Addr) (cl : List (Str × Addr)) (fp : List Addr), EX (X.blk s H scope (compEnvC scope cl C X.env) fp) c o2 .s W0 elt elt')
    (hs : ∀ x, foldedSetIterable iter X.env x = pure x := by intro _; rfl) (hs1 : ∀ env x, foldedSetIterable iter1 env x = pure x := by intro _ _; rfl) (hsub : ∀ j ∈ is, j ∈ nm.map (·.2) := by decide) (hsub1 : ∀ j ∈ is1, j ∈ vs1 := by decide) (hvs : ∀ j ∈ vs1, j ∈ nm.map (·.2) := by decide) :
    EX X c own .o W (.ListComp elt [⟨tg, iter, ifs, 0⟩, ⟨tg1, iter1, ifs1, 0⟩] scope pos) (eLc2 I T tst I1 T1 tst1 elt' (nm.map (·.2)) vs1) :=
  PE.weak (pe_lc2 hc hN hi (blkOk_by ok) hvs hg ht hi1 hg1 ht1 he hs hs1) fun _ _ _ h => lc2_read hsub hsub1 hvs h
theorem s_setLc2 (i : Nat) {y : Str} {py : Pos} {elt tg iter tg1 iter1 : Expr} {ifs ifs1 : List Expr} {scope : Scope} (nm : List (Str × Nat)) {is is1 : List Nat} (vs1 : List Nat) {I I1 : SA} {T T1 : Tg} {tst tst1 : SB} {elt' : SX} {lcp : Pos} (hc : X.calm = true) (hN : X.N.Nodup) (ok : blkC X.N X.env.scope scope nm = true)
    (hi : IJ X c own true w.W tg iter I)
    (hg : ∀ (s : Shared) (H : Hp) (C : Addr) (cl : List (Str × Addr)) (fp : List Addr), TJ (X.blk s H scope (compEnvC scope cl C X.env) fp) c (ownB own (nm.map (·.2))) o1 is tg T)
    (ht : ∀ (s : Shared) (H : Hp) (C : Addr) (cl : List (Str × Addr)) (fp : List Addr), PTs (X.blk s H scope (compEnvC scope cl C X.env) fp) ifs (tB c o1 W0 tst))
    (hi1 : ∀ (s : Shared) (H : Hp) (C : Addr) (cl : List (Str × Addr)) (fp : List Addr), IJ (X.blk s H scope (compEnvC scope cl C X.env) fp) c o1 false W0 tg1 iter1 I1)
    (hg1 : ∀ (s : Shared) (H : Hp) (C : Addr) (cl : List (Str × Addr)) (fp : List Addr), TJ (X.blk s H scope (compEnvC scope cl C X.env) fp) c (ownB o1 vs1) o2 is1 tg1 T1)
    (ht1 : ∀ (s : Shared) (H : Hp) (C : Addr) (cl : List (Str × Addr)) (fp : List Addr), PTs (X.blk s H scope (compEnvC scope cl C X.env) fp) ifs1 (tB c o2 W0 tst1))
    (he : ∀ (s : Shared) (H : Hp) (C : Addr) (cl : List (Str × Addr)) (fp : List Addr), EX (X.blk s H scope (compEnvC scope cl C X.env) fp) c o2 .s W0 elt elt')
    (hy : X.N[i]? = some y := by rfl) (hyl : X.env.scope.names.lookup y = some .local := by rfl) (hsw : swapsWith (.ListComp elt [⟨tg, iter, ifs, 0⟩, ⟨tg1, iter1, ifs1, 0⟩] scope lcp) (some (.Name y py)) pos.line X.env = pure true := by exact sw_true rfl rfl rfl (by decide +kernel))
    (hl : i < own.length := by decide) (hs : ∀ x, foldedSetIterable iter X.env x = pure x := by intro _; rfl) (hs1 : ∀ env x, foldedSetIterable iter1 env x = pure x := by intro _ _; rfl) (hsub : ∀ j ∈ is, j ∈ nm.map (·.2) := by decide) (hsub1 : ∀ j ∈ is1, j ∈ vs1 := by decide) (hvs : ∀ j ∈ vs1, j ∈ nm.map (·.2) := by decide) (ho : w.ox own := by first | exact trivial | rfl) :
    SJ X c w own (own.set i .o) (.Assign [.Name y py] (.ListComp elt [⟨tg, iter, ifs, 0⟩, ⟨tg1, iter1, ifs1, 0⟩] scope lcp) pos) (sSet i (eLc2 I T tst I1 T1 tst1 elt' (nm.map (·.2)) vs1)) := by
  refine PS.weak (ps_setLc2 hc hN hy hyl hsw hi (blkOk_by ok) hvs hg ht hi1 hg1 ht1 he hs hs1) fun Dn σ H h => ?_
  have h2 := set_read (m := .o) i ho (.inl ⟨rfl, hl, rfl⟩) h
  exact lc2_read hsub hsub1 hvs h2
end
end Pf

set_option Elab.async false
set_option linter.all false
set_option maxRecDepth 100000
set_option maxHeartbeats 4000000
namespace Pf
open PySem PySem.Spec PyProof.Rows L2

/-! ## <, <=, >, >= : ints, or data -/
def gLtA (d e : D) : Option D := match d, e with
  | .int i, .int j => some (.bl (decide (i < j)))
  | d, e => gLtD d e
def gLeA (d e : D) : Option D := match d, e with
  | .int i, .int j => some (.bl (decide (i ≤ j)))
  | d, e => gLeD d e
def gGtA (d e : D) : Option D := match d, e with
  | .int i, .int j => some (.bl (decide (j < i)))
  | d, e => gGtD d e
def gGeA (d e : D) : Option D := match d, e with
  | .int i, .int j => some (.bl (decide (j ≤ i)))
  | d, e => gGeD d e
def rOr (r r' : R2) : R2 := fun x y H Q => r x y H Q ∨ r' x y H Q
section
variable {X : Cx} {c : Ct} {own : List Ms} {m : Md} {W : WX} {a b : Expr} {A B : SX} {pos : Pos}
theorem cmpA_ok {f : Int → Int → Bool} {g : D → D → Option D} {r : R2} (hg : OpG r m c g) : OpG (rOr (rI0 fun i j => .bl (f i j)) r) m c (fun d e => match d, e with | .int i, .int j => some (.bl (f i j)) | d, e => g d e) := by
  intro Z H φ x y d e z W σ Q w rx ry h0 h
  have other : (g d e = some z) → rOr (rI0 fun i j => .bl (f i j)) r x y H Q := fun h1 => .inr (hg Z H φ x y d e z W σ Q w rx ry h1 h)
  cases d with
  | int i =>
    cases e with
    | int j => cases h0; exact .inl ⟨i, j, rx.int, ry.int, h.nowB w⟩
    | _ => exact other h0
  | _ => exact other h0
theorem gLtA_ok : OpG (rOr (rI0 fun i j => .bl (decide (i < j))) (rCmpD c.K fun d e => PySem.W.dataLt d e)) m c gLtA := cmpA_ok gLtD_ok
theorem gLeA_ok : OpG (rOr (rI0 fun i j => .bl (decide (i ≤ j))) (rCmpD c.K fun d e => !PySem.W.dataLt e d)) m c gLeA := cmpA_ok gLeD_ok
theorem gGtA_ok : OpG (rOr (rI0 fun i j => .bl (decide (j < i))) (rCmpD c.K fun d e => PySem.W.dataLt e d)) m c gGtA := cmpA_ok gGtD_ok
theorem gGeA_ok : OpG (rOr (rI0 fun i j => .bl (decide (j ≤ i))) (rCmpD c.K fun d e => !PySem.W.dataLt d e)) m c gGeA := cmpA_ok gGeD_ok
theorem op_ltA (hu : X.A.units + 64 < cLine) : OpR X (compareOp .Lt) (rOr (rI0 fun i j => .bl (decide (i < j))) (rCmpD X.K fun d e => PySem.W.dataLt d e)) := OpR.or op_lt (op_ltD hu)
theorem op_leA (hu : X.A.units + 64 < cLine) : OpR X (compareOp .LtE) (rOr (rI0 fun i j => .bl (decide (i ≤ j))) (rCmpD X.K fun d e => !PySem.W.dataLt e d)) := OpR.or op_le (op_leD hu)
theorem op_gtA (hu : X.A.units + 64 < cLine) : OpR X (compareOp .Gt) (rOr (rI0 fun i j => .bl (decide (j < i))) (rCmpD X.K fun d e => PySem.W.dataLt e d)) := OpR.or op_gt (op_gtD hu)
theorem op_geA (hu : X.A.units + 64 < cLine) : OpR X (compareOp .GtE) (rOr (rI0 fun i j => .bl (decide (j ≤ i))) (rCmpD X.K fun d e => !PySem.W.dataLt d e)) := OpR.or op_ge (op_geD hu)
theorem x_ltA (hK : X.K = c.K) (hu : X.A.units + 64 < cLine) (ha : EX X c own .p W a A) (hb : EX X c own .p W b B) : EX X c own .o W (.Compare a [.Lt] [b] pos) (eBin gLtA A B) := x_cmp (op_ltA hu) (by rw [hK]; exact gLtA_ok) ha hb (nomark _)
theorem x_leA (hK : X.K = c.K) (hu : X.A.units + 64 < cLine) (ha : EX X c own .p W a A) (hb : EX X c own .p W b B) : EX X c own .o W (.Compare a [.LtE] [b] pos) (eBin gLeA A B) := x_cmp (op_leA hu) (by rw [hK]; exact gLeA_ok) ha hb (nomark _)
theorem x_gtA (hK : X.K = c.K) (hu : X.A.units + 64 < cLine) (ha : EX X c own .p W a A) (hb : EX X c own .p W b B) : EX X c own .o W (.Compare a [.Gt] [b] pos) (eBin gGtA A B) := x_cmp (op_gtA hu) (by rw [hK]; exact gGtA_ok) ha hb (nomark _)
theorem x_geA (hK : X.K = c.K) (hu : X.A.units + 64 < cLine) (ha : EX X c own .p W a A) (hb : EX X c own .p W b B) : EX X c own .o W (.Compare a [.GtE] [b] pos) (eBin gGeA A B) := x_cmp (op_geA hu) (by rw [hK]; exact gGeA_ok) ha hb (nomark _)
theorem b_ltA (hK : X.K = c.K) (hu : X.A.units + 64 < cLine) (ha : EX X c own .p W a A) (hb : EX X c own .p W b B) : BX X c own W (.Compare a [.Lt] [b] pos) (bCmp gLtA A B) := b_cmp (op_ltA hu) (by rw [hK]; exact gLtA_ok) ha hb (nomark _)
theorem b_leA (hK : X.K = c.K) (hu : X.A.units + 64 < cLine) (ha : EX X c own .p W a A) (hb : EX X c own .p W b B) : BX X c own W (.Compare a [.LtE] [b] pos) (bCmp gLeA A B) := b_cmp (op_leA hu) (by rw [hK]; exact gLeA_ok) ha hb (nomark _)
theorem b_gtA (hK : X.K = c.K) (hu : X.A.units + 64 < cLine) (ha : EX X c own .p W a A) (hb : EX X c own .p W b B) : BX X c own W (.Compare a [.Gt] [b] pos) (bCmp gGtA A B) := b_cmp (op_gtA hu) (by rw [hK]; exact gGtA_ok) ha hb (nomark _)
theorem b_geA (hK : X.K = c.K) (hu : X.A.units + 64 < cLine) (ha : EX X c own .p W a A) (hb : EX X c own .p W b B) : BX X c own W (.Compare a [.GtE] [b] pos) (bCmp gGeA A B) := b_cmp (op_geA hu) (by rw [hK]; exact gGeA_ok) ha hb (nomark _)

/-! ## the built-ins by name -/
variable {e e2 : Expr} {p : Pos} {S : SA}
theorem x_len (hK : X.K = c.K) (hm : X.mg "len" = none) (ha : AX X c own .p W [e] S) (hg : Gl X "len" := by rfl) (he : starEach [e] X.env = (false, eval e X.env) :: starEach [] X.env := by rfl) (hpl : (backTo pos (starEach [] X.env)).any (·.1) = false := by rfl) :
    EX X c own .o W (.Call (.Name "len" p) [e] [] pos) (eCB gLen S) := x_callB call_len (by rw [hK]; exact gLen_ok) hm PySem.boot_len ha hg (by decide) (by decide) he hpl
theorem x_sum (hK : X.K = c.K) (hc : X.calm = true) (hm : X.mg "sum" = none) (ha : AX X c own .p W [e] S) (hg : Gl X "sum" := by rfl) (he : starEach [e] X.env = (false, eval e X.env) :: starEach [] X.env := by rfl) (hpl : (backTo pos (starEach [] X.env)).any (·.1) = false := by rfl) :
    EX X c own .o W (.Call (.Name "sum" p) [e] [] pos) (eCB gSum S) := x_callB (cr_sum hc) (by rw [hK]; exact gSum_ok) hm (by decide +kernel) ha hg (by decide) (by decide) he hpl
theorem x_any (hK : X.K = c.K) (hc : X.calm = true) (hm : X.mg "any" = none) (ha : AX X c own .p W [e] S) (hg : Gl X "any" := by rfl) (he : starEach [e] X.env = (false, eval e X.env) :: starEach [] X.env := by rfl) (hpl : (backTo pos (starEach [] X.env)).any (·.1) = false := by rfl) :
    EX X c own .o W (.Call (.Name "any" p) [e] [] pos) (eCB gAny S) := x_callB (cr_any hc) (by rw [hK]; exact gAny_ok) hm (by decide +kernel) ha hg (by decide) (by decide) he hpl
theorem x_all (hK : X.K = c.K) (hc : X.calm = true) (hm : X.mg "all" = none) (ha : AX X c own .p W [e] S) (hg : Gl X "all" := by rfl) (he : starEach [e] X.env = (false, eval e X.env) :: starEach [] X.env := by rfl) (hpl : (backTo pos (starEach [] X.env)).any (·.1) = false := by rfl) :
    EX X c own .o W (.Call (.Name "all" p) [e] [] pos) (eCB gAll S) := x_callB (cr_all hc) (by rw [hK]; exact gAll_ok) hm (by decide +kernel) ha hg (by decide) (by decide) he hpl
theorem x_max1 (hK : X.K = c.K) (hc : X.calm = true) (hm : X.mg "max" = none) (ha : AX X c own .p W [e] S) (hg : Gl X "max" := by rfl) (he : starEach [e] X.env = (false, eval e X.env) :: starEach [] X.env := by rfl) (hpl : (backTo pos (starEach [] X.env)).any (·.1) = false := by rfl) :
    EX X c own .o W (.Call (.Name "max" p) [e] [] pos) (eCB gMax1 S) := x_callB (cr_max hc) (by rw [hK]; exact gMax1_ok) hm (by decide +kernel) ha hg (by decide) (by decide) he hpl
theorem x_min1 (hK : X.K = c.K) (hc : X.calm = true) (hm : X.mg "min" = none) (ha : AX X c own .p W [e] S) (hg : Gl X "min" := by rfl) (he : starEach [e] X.env = (false, eval e X.env) :: starEach [] X.env := by rfl) (hpl : (backTo pos (starEach [] X.env)).any (·.1) = false := by rfl) :
    EX X c own .o W (.Call (.Name "min" p) [e] [] pos) (eCB gMin1 S) := x_callB (cr_min hc) (by rw [hK]; exact gMin1_ok) hm (by decide +kernel) ha hg (by decide) (by decide) he hpl
theorem x_max2 (hc : X.calm = true) (hm : X.mg "max" = none) (ha : AX X c own .p W [e, e2] S) (hg : Gl X "max" := by rfl) (he : starEach [e, e2] X.env = (false, eval e X.env) :: starEach [e2] X.env := by rfl) (hpl : (backTo pos (starEach [e2] X.env)).any (·.1) = false := by rfl) :
    EX X c own .o W (.Call (.Name "max" p) [e, e2] [] pos) (eCB gMax2 S) := x_callB (call_max2 hc) gMax2_ok hm (by decide +kernel) ha hg (by decide) (by decide) he hpl
theorem x_min2 (hc : X.calm = true) (hm : X.mg "min" = none) (ha : AX X c own .p W [e, e2] S) (hg : Gl X "min" := by rfl) (he : starEach [e, e2] X.env = (false, eval e X.env) :: starEach [e2] X.env := by rfl) (hpl : (backTo pos (starEach [e2] X.env)).any (·.1) = false := by rfl) :
    EX X c own .o W (.Call (.Name "min" p) [e, e2] [] pos) (eCB gMin2 S) := x_callB (call_min2 hc) gMin2_ok hm (by decide +kernel) ha hg (by decide) (by decide) he hpl
theorem x_abs (hm : X.mg "abs" = none) (ha : AX X c own .p W [e] S) (hg : Gl X "abs" := by rfl) (he : starEach [e] X.env = (false, eval e X.env) :: starEach [] X.env := by rfl) (hpl : (backTo pos (starEach [] X.env)).any (·.1) = false := by rfl) :
    EX X c own .o W (.Call (.Name "abs" p) [e] [] pos) (eCB gAbs S) := x_callB call_abs gAbs_ok hm (by decide +kernel) ha hg (by decide) (by decide) he hpl
theorem x_list (hK : X.K = c.K) (hm : X.mg "list" = none) (ha : AX X c own .p W [e] S) (hg : Gl X "list" := by rfl) (he : starEach [e] X.env = (false, eval e X.env) :: starEach [] X.env := by rfl) (hpl : (backTo pos (starEach [] X.env)).any (·.1) = false := by rfl) :
    EX X c own .o W (.Call (.Name "list" p) [e] [] pos) (eCB gList S) := x_callT call_list_of (by rw [hK]; exact gList_ok) hm (by decide +kernel) ha hg (by decide) (by decide) he hpl
theorem x_tuple (hK : X.K = c.K) (hm : X.mg "tuple" = none) (ha : AX X c own .p W [e] S) (hg : Gl X "tuple" := by rfl) (he : starEach [e] X.env = (false, eval e X.env) :: starEach [] X.env := by rfl) (hpl : (backTo pos (starEach [] X.env)).any (·.1) = false := by rfl) :
    EX X c own .o W (.Call (.Name "tuple" p) [e] [] pos) (eCB gTuple S) := x_callT call_tuple_of (by rw [hK]; exact gTuple_ok) hm (by decide +kernel) ha hg (by decide) (by decide) he hpl
theorem x_int1 (hm : X.mg "int" = none) (ha : AX X c own .p W [e] S) (hg : Gl X "int" := by rfl) (he : starEach [e] X.env = (false, eval e X.env) :: starEach [] X.env := by rfl) (hpl : (backTo pos (starEach [] X.env)).any (·.1) = false := by rfl) :
    EX X c own .o W (.Call (.Name "int" p) [e] [] pos) (eCB gInt S) := x_callT call_int1 gInt_ok hm (by decide +kernel) ha hg (by decide) (by decide) he hpl
theorem x_sorted (hK : X.K = c.K) (hu : X.A.units + 66 < cLine) (hm : X.mg "sorted" = none) (ha : AX X c own .p W [e] S) (hg : Gl X "sorted" := by rfl) (he : starEach [e] X.env = (false, eval e X.env) :: starEach [] X.env := by rfl) (hpl : (backTo pos (starEach [] X.env)).any (·.1) = false := by rfl) :
    EX X c own .o W (.Call (.Name "sorted" p) [e] [] pos) (eCB gSorted S) := x_callB (cr_sortedD hu) (by rw [hK]; exact gSorted_ok) hm (by decide +kernel) ha hg (by decide) (by decide) he hpl
end
theorem hu64 {k : Nat} {A : Around} (r : Room k A) : A.units + 64 < cLine := r.units
theorem hu65 {k : Nat} {A : Around} (r : Room k A) : A.units + 65 < cLine := by have := r.un; omega
theorem hu66 {k : Nat} {A : Around} (r : Room k A) : A.units + 66 < cLine := by have := r.un; omega
end Pf

set_option Elab.async false
set_option linter.all false
set_option maxRecDepth 100000
set_option maxHeartbeats 4000000
namespace Pf
open PySem PySem.Spec PyProof.Rows L2

/-! ## what is looked at with more frozen than stays frozen: answers that are flat -/
theorem Wf.back {K : PySem.W.Frag} {f : Addr} {Z Z1 Z' H H' : Hp} {φ φ1 : Fd} (w : Wf K f Z H φ) (k : Sub Z Z1) (e : Ext f Z1 H Z' H') (w' : Wf K f Z' H' φ1) : ∃ Zb, Sub Z Zb ∧ Sub Zb Z' ∧ Ext f Z H Zb H' ∧ Wf K f Zb H' φ1 := by
  obtain ⟨Zb, hb⟩ : ∃ Zb : Hp, Zb = fun a => match Z a with | some o => some o | none => (match Z' a with | some (.tup xs) => some (.tup xs) | _ => none) := ⟨_, rfl⟩
  have b1 : ∀ {a o}, Z a = some o → Zb a = some o := fun {a o} q => by rw [hb]; show (match Z a with | some o => some o | none => _) = _; rw [q]
  have b2 : ∀ {a}, Z a = none → Zb a = (match Z' a with | some (.tup xs) => some (.tup xs) | _ => none) := fun {a} q => by rw [hb]; show (match Z a with | some o => some o | none => _) = _; rw [q]
  have kz : ∀ a o, Z a = some o → Z' a = some o := fun a o q => e.z a o (k a o q)
  have b3 : ∀ {a o}, Zb a = some o → Z' a = some o := fun {a o} q => by
    cases hz : Z a with
    | some u => rw [b1 hz] at q; cases q; exact kz a _ hz
    | none =>
      rw [b2 hz] at q
      split at q
      · rename_i xs h1; cases q; exact h1
      · cases q
  have b4 : ∀ {a}, Z a = none → Z' a = none → Zb a = none := fun {a} q q' => by rw [b2 q, q']
  refine ⟨Zb, fun a o q => b1 q, fun a o q => b3 q, ⟨fun a o q => b1 q, e.h, e.k, fun a ha hz => ?_, e.d⟩, ⟨fun a o q => w'.sub a o (b3 q), b4 w.zf w'.zf, ?_, w'.ok, fun a xs q => ?_⟩⟩
  · cases q : Zb a with
    | none => rfl
    | some u =>
      have hu := q
      rw [b2 hz] at hu
      split at hu
      · rename_i xs h1
        have h2 := w'.sub a _ h1
        cases hh : H a with
        | none => exact absurd hh ha
        | some o =>
          have hne : a ≠ f := fun z => by rw [z, w'.zf] at h1; cases h1
          have h3 := e.h a o hne hh
          rw [h2] at h3
          cases h3
          have := w.tt a xs hh
          rw [hz] at this
          cases this
      · cases hu
  · obtain ⟨s, h1, h2⟩ := w.feed
    obtain ⟨s', h1', h2'⟩ := w'.feed
    obtain ⟨o', h3, hr⟩ := e.d _ h2
    rw [h2'] at h3
    cases h3
    refine ⟨s', ?_, h2'⟩
    rcases h1' with h1' | ⟨k1, k2⟩
    · exact .inl h1'
    · rcases h1 with ⟨_, h1⟩ | ⟨g1, g2⟩
      · rcases hr with hr | ⟨x, vs, us, hr, _⟩
        · exact absurd (hr.symm.trans k2) (h1 _ _)
        · exact absurd hr (h1 _ _)
      · have hs : s'.1 = s.1 := by
          rcases hr with hr | ⟨x, vs, us, hr, hr'⟩
          · rw [k2, g2] at hr; injection hr with hr; injection hr with hr _; injection hr
          · rw [g2] at hr; rw [k2] at hr'; injection hr with hr; injection hr with hr _; injection hr' with hr'; injection hr' with hr' _; rw [← hr'] at hr; injection hr with hr; exact hr.symm
        refine .inr ⟨?_, k2⟩
        have h4 := e.z _ _ (k _ _ g1)
        rw [hs] at k1 ⊢
        rw [h4] at k1
        rw [b1 g1, Option.some.inj k1]
  · have h1 := w'.tt a xs q
    cases hz : Z a with
    | some u =>
      have := kz a u hz
      rw [h1] at this
      cases this
      exact b1 hz
    | none => rw [b2 hz, h1]
def bStill (A : SB) : SB := fun ρ φ => (A ρ φ).still
def D.flatB : D → Bool
  | .non => true
  | .bl _ => true
  | .int _ => true
  | .str _ => true
  | _ => false
def eStill (A : SX) : SX := fun ρ φ => match A ρ φ with
  | .ok d φ1 => if d.flatB = true then .ok d φ1 else .bad
  | _ => .bad
theorem Rep.flatB {K : PySem.W.Frag} {f : Addr} {Z Z' : Hp} {v : V} {d : D} (r : Rep K f Z v d) (h : d.flatB = true) : Rep K f Z' v d := by
  cases r with
  | non => exact .non
  | bl b => exact .bl b
  | int b => exact .int b
  | str b => exact .str b
  | cel _ q => cases q <;> cases h
  | tup _ _ => cases h
  | feed => cases h
  | fnv _ => cases h
  | kz _ _ => cases h
  | dz _ _ => cases h
  | exn => cases h
theorem D.flatB_mt {d : D} (h : d.flatB = true) : d.mt = false := by cases d <;> first | rfl | cases h
section
variable {X : Cx} {c : Ct} {own : List Ms} {m : Md} {W : WX}
theorem b_scope (is : List Nat) (hp : ∀ i ∈ is, own[i]? ≠ some .p) {e : Expr} {A : SB} (h : BX X c (is.foldr (fun i o => o.set i .s) own) W0 e A) : BX X c own W e (bStill A) := by
  refine PT.weak h ?_
  rintro σ H Q ⟨Z, ρ, φ, R, h⟩
  obtain ⟨Z1, k, R1⟩ := R.frzs is hp
  refine ⟨Z1, ρ, φ, R1, ?_⟩
  unfold bStill at h
  cases hA : A ρ φ with
  | bad => rw [hA] at h; exact h.elim
  | ex _ _ _ => rw [hA] at h; exact h.elim
  | ok b φ1 =>
    rw [hA] at h
    intro Z' H' e' w'
    obtain ⟨Zb, _, _, e2, w2⟩ := R.wf.back k e' w'
    exact h Zb H' e2 w2
theorem x_scope (is : List Nat) (hp : ∀ i ∈ is, own[i]? ≠ some .p) {e : Expr} {A : SX} {m' : Md} (h : EX X c (is.foldr (fun i o => o.set i .s) own) m' W0 e A) : EX X c own m W e (eStill A) := by
  refine PE.weak h ?_
  rintro σ H Q ⟨Z, ρ, φ, R, h⟩
  obtain ⟨Z1, k, R1⟩ := R.frzs is hp
  refine ⟨Z1, ρ, φ, R1, ?_⟩
  unfold eStill at h
  cases hA : A ρ φ with
  | bad => rw [hA] at h; exact h.elim
  | ex _ _ _ => rw [hA] at h; exact h.elim
  | ok d φ1 =>
    rw [hA] at h
    intro v Z' H' e' w' r
    have h' : Post c m W (if d.flatB = true then .ok d φ1 else .bad) σ Z H Q := h
    by_cases hf : d.flatB = true
    · rw [if_pos hf] at h'
      obtain ⟨Zb, _, _, e2, w2⟩ := R.wf.back k e' w'
      exact h' v Zb H' e2 w2 (Res.of_flat ((r.flat (D.flatB_mt hf)).flatB hf) (D.flatB_mt hf))
    · rw [if_neg hf] at h'
      exact h'.elim
end

/-! ## the law's own feed; a def that calls itself -/
section
variable {P : Program} {w : World} {K : PySem.W.Frag} {mg : Str → Option Value} {base : Heap}
theorem feed_read {vs : List V} {H : Hp} {Q : VK} {E : XK} (h : spFeed K vs H Q E) :
    tSeq (tRet (tLst (tCons (tCB (fun xs H Q => ∃ p ys, xs = [.ref p] ∧ (SqL K H p ys ∨ SqT K H p ys) ∧ ∀ l, H l = none → Q (.ref l) (upd H l (.lst ys))) (tCons (tVar 0) tNil)) (tCons (tC (.int 0)) (tCons (tC (.int 0)) (tCons (tC (.int 1)) tNil)))))) tNext { nx := fun _ H' => Q .non H', rt := Q } (L2.start ["script"] vs) H := by
  obtain ⟨a, ns, rfl, hs, q⟩ := h
  refine ⟨.ref a, rfl, a, ns.map V.int, rfl, .inl hs, fun l hl => ?_⟩
  refine ⟨show 4 ≤ sizeLine by decide, fun p hp => ?_⟩
  have hpl : p ≠ l := fun e => by rw [e, upd_same] at hp; cases hp
  rw [upd_ne hpl] at hp
  exact q l p hl hp hpl
/-- at the bottom of a recursion -/
theorem fn_bad {cls : Str → Option (Addr × List Str)} {f : Addr} {fd : FuncData} {ps : List Str} {k : Nat} {pm : List Bool} (m : Md) : FnOk P w K mg base (L2N.CX P w) k f fd ps (spF cls K pm m fun _ _ => .bad) :=
  have no : ∀ {vs : List V} {H : Hp} {Q : VK} {E : XK}, spF cls K pm m (fun _ _ => .bad) vs H Q E → False := fun h => by
    obtain ⟨f, Z, ds, φ, _, rs, h⟩ := h
    exact h
  ⟨fun _ _ _ _ h => (no h).elim, fun _ _ _ _ _ _ _ _ _ _ _ _ _ h => (no h).elim⟩
end

/-! ## a part of a body as a body of its own: what stood ahead is only looked at; behind it, what the part has made is forgotten, but for flat data -/
def subC (c : Ct) (Z : Hp) (ρ : En) (σ : L2.St) (H : Hp) : Ct := ⟨c.K, c.f, Z, H, c.cls, σ, ρ⟩
def Ms.inn : Ms → Ms
  | .o => .p
  | .p => .p
  | .s => .r
  | .r => .r
def Ms.pin : Option Ms → Bool
  | some .p => true
  | some .r => true
  | _ => false
def ownIn (own : List Ms) : List Ms := own.map Ms.inn
def ownOut (own own1 : List Ms) : List Ms := own.mapIdx fun i m => if Ms.pin own1[i]? = true then m else .s
def flatO : Option D → Option D
  | some d => if d.flatB = true then some d else none
  | none => none
def enOut (own1 : List Ms) (ρ : En) : En := ρ.mapIdx fun i x => if Ms.pin own1[i]? = true then x else flatO x
theorem pin_iff {x : Option Ms} : Ms.pin x = true ↔ x = some .p ∨ x = some .r := by
  rcases x with _ | (_ | _ | _ | _) <;> simp [Ms.pin]
theorem Rl.enter {c : Ct} {own : List Ms} {Z : Hp} {ρ : En} {φ : Fd} {σ : L2.St} {H : Hp} (R : Rl c own Z ρ φ σ H) : Rl (subC c Z ρ σ H) (ownIn own) Z ρ φ σ H := by
  have get : ∀ {i : Nat} {x : Ms}, (ownIn own)[i]? = some x → ∃ y, own[i]? = some y ∧ x = y.inn := fun {i x} h => by
    unfold ownIn at h
    rw [List.getElem?_map] at h
    cases e : own[i]? with
    | none => rw [e] at h; cases h
    | some y => rw [e] at h; cases h; exact ⟨y, rfl, rfl⟩
  have put : ∀ {i : Nat} {y : Ms}, own[i]? = some y → (ownIn own)[i]? = some y.inn := fun {i y} h => by
    unfold ownIn
    rw [List.getElem?_map, h] <;> rfl
  have no : ∀ {i : Nat}, (ownIn own)[i]? ≠ some .o := fun {i} h => by
    obtain ⟨y, _, e⟩ := get h
    cases y <;> cases e
  refine ⟨R.wf, Ext.refl, R.len, fun i d h1 _ h3 => ?_, fun i d _ h2 => absurd h2 no, fun i j a d e _ h1 => absurd h1 no, fun i d h1 _ => ⟨h1, rfl⟩, fun i d h1 _ => R.look h1⟩
  exact R.sh i d h1 (fun e => h3 (put e)) (fun e => h3 (put e))
theorem execs_app {env : Env} : ∀ (a b : List Stmt), execs (a ++ b) env = (do match ← execs a env with | .next => execs b env | f => pure f)
  | [], b => by
    show execs b env = _
    rw [show execs [] env = pure Flow.next from rfl, pure_bind]
  | st :: a, b => by
    rw [List.cons_append, execs_cons, execs_cons, bind_assoc]
    refine congrArg (bind _) (funext fun f => ?_)
    cases f with
    | next => exact execs_app a b
    | _ => rw [pure_bind]
theorem pss_app {X : Cx} {a b : List Stmt} {t u : TS} (h1 : PSs X a t) (h2 : PSs X b u) : PSs X (a ++ b) (tSeq t u) := by
  refine ⟨fun pins s σ H D I h => ?_⟩
  rw [execs_app]
  refine wpAny_bind (thn (h1.run pins s σ H { D with nx := u D } I h) fun f s1 q => ?_)
  cases f with
  | next =>
    obtain ⟨σ', H', I', q⟩ := q
    exact h2.run pins s1 σ' H' D I' q
  | ret v => exact wpAny_pure q
  | brk => exact wpAny_pure q
  | cont => exact wpAny_pure q
section
variable {X : Cx} {c : Ct} {w : Ow} {own own1 on : List Ms}
end
end Pf

set_option Elab.async false
set_option linter.all false
set_option maxRecDepth 100000
set_option maxHeartbeats 4000000

/-! ## max and min of two things that are compared as data -/
namespace PySem.W
open PySem PyProof.Rows
section
variable {prog : Program} {w : World} {A : Around} {E : Value → Shared → Prop} {s : Shared}
theorem call_max_twoH {a b : Value} {d e : PyData} {as bs : List Addr} {Q : Value → Shared → Prop} (hh : A.handled = none) (ra : Reads s.heap a d as) (rb : Reads s.heap b e bs)
    (al : AlikeAll [d, e]) (hu : A.units + 1 + PyData.depthAll [d, e] < cLine)
    (h : ∀ h' tk, (∀ c o, s.heap.get? c = some o → h'.get? c = some o) → Q (if dataLt d e then b else a) { s with heap := h', toks := tk }) :
    wpAny (model prog w) A (call (.builtin "max") [a, b]) Q E s := by
  have hname : (toString "max" ++ toString ".loop" : String) = "max.loop" := by decide
  have hT : (s.heap.push { cls := .type "tuple", data := .seq #[a, b] }).IsTuple s.heap.objs.size #[a, b] := ⟨_, Heap.get?_push_size _ rfl, rfl, 0, rfl⟩
  have old : ∀ c o, s.heap.get? c = some o → (s.heap.push { cls := .type "tuple", data := .seq #[a, b] }).get? c = some o := fun c o e => Heap.get?_push_of_some _ e
  have hr : ReadsAll (s.heap.push { cls := .type "tuple", data := .seq #[a, b] }) [a, b] [d, e] (as ++ (bs ++ [])) := .cons (reads_keeps old ra) (.cons (reads_keeps old rb) .nil)
  refine call_function_tree F.kind_max F.plain_max F.entry_max (F.args_max2 _ _) ?_
  show wpAny _ A.in1 (Builtin.Builtins.bindParams "max" ["key", "default"] 0 ⟨[], []⟩ >>= _) _ _ s
  refine wpAny_bind (wpAny_of_eq (show Builtin.Builtins.bindParams "max" ["key", "default"] 0 ⟨[], []⟩ = pure [none, none] from rfl) ?_)
  show wpAny _ A.in1 (newTuple [a, b] >>= _) _ _ s
  refine wpAny_bind (wpAny_newObj_type ?_)
  refine wpAny_bind (iter_tupleW (A := A.in1) hh hT fun s₂ e2 W hst hfp hw hk => ?_)
  refine wpAny_bind (wpAny_newObj_type ?_)
  have hSf : s₂.heap.objs.size ∉ _ := fun hm => Nat.lt_irrefl _ (hfp _ hm)
  rw [hname]
  refine wpAny_pure ⟨plainId_quiet F.plain_max_loop _, codeAny_max_loop_firstH W _ hw _ (cmpIn_gt (A := A.in1) hr al (by show A.units + 1 + _ < _; exact hu)) s₂.heap.objs.size hSf (fresh_in hk) _ (show 0 < 2 by decide) (fun b o e => Heap.get?_push_of_some _ (hk b o e)) (W.frame 0 s₂ _ s₂.toks hst (Nat.le_refl _) fun b _ o e => Heap.get?_push_of_some _ e) (Heap.get?_push_size _ rfl) fun v s' hP hm => ?_⟩
  obtain ⟨h', tk, rfl, hk'⟩ := moved_old e2 rfl (Moved.drop_new (tk := s₂.toks) hm (Nat.le_refl _))
  have hv : v = if dataLt d e then b else a := by
    cases hc : dataLt d e <;> simp [argBest, hc] at hP <;> simp [hP]
  rw [hv]
  exact h h' tk fun c o e => hk' c o (old c o e)
end
end PySem.W

namespace Pf
open PySem PySem.Spec PyProof.Rows L2
section
variable {X : Cx} {c : Ct} {own : List Ms} {m : Md} {W : WX} {a b : Expr} {A B : SX} {pos : Pos}
def alk2 (d e : PyData) : Bool := PySem.W.alike d d && PySem.W.alike d e && PySem.W.alike e d && PySem.W.alike e e
def rMax2D (K : PySem.W.Frag) : List V → Hp → VK → Prop := fun xs H Q => ∃ x y d e, xs = [x, y] ∧ Dp K H x d ∧ Dp K H y e ∧ alk2 d e = true ∧ SeqAt.shaped d = true ∧ SeqAt.shaped e = true ∧ d ≠ .none ∧ e ≠ .none ∧ Q (if PySem.W.dataLt d e then y else x) H
theorem alk2_ok {d e : PyData} (h : alk2 d e = true) (h1 : d ≠ .none) (h2 : e ≠ .none) : PySem.W.AlikeAll [d, e] := by
  unfold alk2 at h
  simp only [Bool.and_eq_true] at h
  obtain ⟨⟨⟨a1, a2⟩, a3⟩, a4⟩ := h
  refine ⟨fun x hx y hy => ?_, fun x hx => ?_⟩
  · rcases List.mem_cons.mp hx with rfl | hx
    · rcases List.mem_cons.mp hy with rfl | hy
      · exact a1
      · rw [List.mem_singleton.mp hy]; exact a2
    · rw [List.mem_singleton.mp hx]
      rcases List.mem_cons.mp hy with rfl | hy
      · exact a3
      · rw [List.mem_singleton.mp hy]; exact a4
  · rcases List.mem_cons.mp hx with rfl | hx
    · exact h1
    · rw [List.mem_singleton.mp hx]; exact h2
theorem shaped_dep {d : PyData} (h : SeqAt.shaped d = true) : d.depth ≤ 64 := by
  unfold SeqAt.shaped at h
  rw [Bool.and_eq_true, decide_eq_true_eq] at h
  exact h.2
theorem call_max2D (hc : X.calm = true) (hu : X.A.units + 66 < cLine) : CallR X (.builtin "max") (rMax2D X.K) := by
  intro pins s σ H xs us Q I r h
  obtain ⟨x, y, d, e, rfl, hd, he, al, sd, se, n1, n2, q⟩ := h
  obtain ⟨u, w', rfl, rx, ry⟩ := vals2 r
  obtain ⟨as, r1⟩ := Dp.reads I d x u hd rx
  obtain ⟨bs, r2⟩ := Dp.reads I e y w' he ry
  have hdep : PyData.depthAll [d, e] ≤ 64 := by
    simp only [PyData.depthAll]
    have := shaped_dep sd
    have := shaped_dep se
    omega
  refine PySem.W.call_max_twoH (I.ok.hd hc) r1 r2 (alk2_ok al n1 n2) (by omega) fun h' tk k => ⟨_, H, I.kept k, ?_, q⟩
  cases PySem.W.dataLt d e with
  | true => rw [if_pos rfl, if_pos rfl]; exact ry
  | false => rw [if_neg Bool.false_ne_true, if_neg Bool.false_ne_true]; exact rx
/-! built-ins that hand on what they are given -/
def CallGS (r : List V → Hp → VK → Prop) (m : Md) (c : Ct) (g : List D → Option D) : Prop :=
  ∀ (Z H : Hp) (φ : Fd) (xs : List V) (ds : List D) (z : D) (W : WX) (σ : L2.St) (Q : VK), Wf c.K c.f Z H φ → RAll .s c.K c.f H Z H xs ds → g ds = some z → Post c m W (.ok z φ) σ Z H Q → r xs H Q
theorem cb_coreS {r : List V → Hp → VK → Prop} {g : List D → Option D} {A : SA} (hg : CallGS r m c g) {σ : L2.St} {H : Hp} {Q : VK} (h : tE c own m W (eCB g A) σ H Q) : tCB r (tA c own .s W A) σ H Q := by
  obtain ⟨Z, ρ, φ, R, h⟩ := h
  refine ⟨Z, ρ, φ, R, PostA.bindE h fun ds φ1 xs Z1 H1 e1 w1 r1 h1 => ?_⟩
  obtain ⟨z, hz, h3⟩ := ofO_ok (E := fun o => Post c m W o σ Z1 H1 Q) h1 fun z => z
  exact hg Z1 H1 φ1 xs ds z W σ Q w1 (r1.any (by decide)) hz h3
theorem x_callBS {id : String} {r : List V → Hp → VK → Prop} {g : List D → Option D} {x : Str} {p : Pos} {e : Expr} {es : List Expr} {A : SA} (hc : CallR X (.builtin id) r) (hG : CallGS r m c g) (hm : X.mg x = none) (hv : bootBuiltins x = some (.builtin id)) (ha : AX X c own .s W (e :: es) A)
    (hg : Gl X x := by rfl) (hn : x ≠ "__name__" := by decide) (hdb : (x == ("__debug__" : Str)) = false := by decide)
    (he : starEach (e :: es) X.env = (false, eval e X.env) :: starEach es X.env := by rfl) (hpl : (backTo pos (starEach es X.env)).any (·.1) = false := by rfl) : EX X c own m W (.Call (.Name x p) (e :: es) [] pos) (eCB g A) :=
  PE.weak (pe_callB hc hg hm hv ha hn hdb he hpl) fun _ _ _ h => cb_coreS hG h
def gMax2D : List D → Option D
  | [d, e] => if alk2 d.py e.py && d.shp && e.shp && okLt d e && okLt e d then some (if ltD d e then e else d) else none
  | _ => none
theorem gMax2D_ok : CallGS (rMax2D c.K) .s c gMax2D := by
  intro Z H φ xs ds z W σ Q w r hg h
  match ds, hg, r with
  | [d, e], hg, r =>
    obtain ⟨hs, rfl⟩ := ifs hg
    simp only [Bool.and_eq_true] at hs
    obtain ⟨⟨⟨⟨h1, h2⟩, h3⟩, h4⟩, h5⟩ := hs
    obtain ⟨x, y, rfl, rx, ry⟩ := r.two'
    have k1 := okLt_ok h4
    have k2 := okLt_ok h5
    refine ⟨x, y, d.py, e.py, rfl, ?_, ?_, h1, h2, h3, k1.2.2.2, k2.2.2.2, ?_⟩
    · exact (show Res .p c.K c.f H Z H x d from .inl rx).dp w (SeqAt.canLay_of_shaped h2)
    · exact (show Res .p c.K c.f H Z H y e from .inl ry).dp w (SeqAt.canLay_of_shaped h3)
    · have : PySem.W.dataLt d.py e.py = ltD d e := rfl
      rw [this]
      by_cases hc : ltD d e = true
      · rw [if_pos hc] at h ⊢; exact h.now w ry
      · rw [if_neg hc] at h ⊢; exact h.now w rx
theorem x_max2S {e e2 : Expr} {p : Pos} {S : SA} (hK : X.K = c.K) (hc : X.calm = true) (hu : X.A.units + 66 < cLine) (hm : X.mg "max" = none) (ha : AX X c own .s W [e, e2] S) (hg : Gl X "max" := by rfl) (he : starEach [e, e2] X.env = (false, eval e X.env) :: starEach [e2] X.env := by rfl) (hpl : (backTo pos (starEach [e2] X.env)).any (·.1) = false := by rfl) :
    EX X c own .s W (.Call (.Name "max" p) [e, e2] [] pos) (eCB gMax2D S) := x_callBS (call_max2D hc hu) (by rw [hK]; exact gMax2D_ok) hm (by decide +kernel) ha hg (by decide) (by decide) he hpl
end
end Pf

set_option Elab.async false
set_option linter.all false
set_option maxRecDepth 100000
set_option maxHeartbeats 4000000
namespace Pf
open PySem PySem.Spec PyProof.Rows L2

/-! ## dicts whose keys are ints and texts -/
def valD (l : List (Key × D)) (k : Key) : Option D := (l.find? fun kv => decide (kv.1 = k)).map (·.2)
def putD (l : List (Key × D)) (k : Key) (v : D) : List (Key × D) :=
  if (l.any fun kv => decide (kv.1 = k)) = true then l.map (fun kv => if kv.1 = k then (kv.1, v) else kv) else l ++ [(k, v)]
def mergeD (l more : List (Key × D)) : List (Key × D) := more.foldl (fun acc kv => putD acc kv.1 kv.2) l
def keyD : D → Option Key
  | .int i => some (.inl i)
  | .str x => some (.inr x)
  | _ => none
section
variable {K : PySem.W.Frag} {f : Addr} {Z : Hp}
theorem KReps.length : ∀ {v : List (Key × V)} {d : List (Key × D)}, KReps K f Z v d → v.length = d.length
  | _, _, .nil => rfl
  | _, _, .cons _ s => by simp [s.length]
theorem KReps.app : ∀ {v v' : List (Key × V)} {d d' : List (Key × D)}, KReps K f Z v d → KReps K f Z v' d' → KReps K f Z (v ++ v') (d ++ d')
  | _, _, _, _, .nil, s => s
  | _, _, _, _, .cons r t, s => .cons r (t.app s)
theorem KReps.hit : ∀ {v : List (Key × V)} {d : List (Key × D)} {k : Key} {z : D}, KReps K f Z v d → valD d k = some z → ∃ y, valV v k = some y ∧ Rep K f Z y z
  | _, _, k, z, .nil, e => by cases e
  | _, _, k, z, .cons (k := k0) (v := y0) (d := d0) (r := r) (s := s) q t, e => by
    by_cases h : k0 = k
    · have e1 : valD ((k0, d0) :: s) k = some d0 := by simp [valD, h]
      rw [e1] at e
      cases e
      exact ⟨y0, valV_pos (p := (k0, y0)) h, q⟩
    · have e1 : valD ((k0, d0) :: s) k = valD s k := by simp [valD, h]
      rw [e1] at e
      obtain ⟨y, h1, h2⟩ := KReps.hit (k := k) (z := z) t e
      exact ⟨y, by rw [valV_neg (p := (k0, y0)) h]; exact h1, h2⟩
theorem KReps.miss : ∀ {v : List (Key × V)} {d : List (Key × D)} {k : Key}, KReps K f Z v d → valD d k = none → valV v k = none
  | _, _, k, .nil, e => rfl
  | _, _, k, .cons (k := k0) (v := y0) (d := d0) (r := r) (s := s) q t, e => by
    by_cases h : k0 = k
    · have e1 : valD ((k0, d0) :: s) k = some d0 := by simp [valD, h]
      rw [e1] at e
      cases e
    · have e1 : valD ((k0, d0) :: s) k = valD s k := by simp [valD, h]
      rw [e1] at e
      rw [valV_neg (p := (k0, y0)) h]
      exact KReps.miss t e
theorem KReps.any : ∀ {v : List (Key × V)} {d : List (Key × D)} (k : Key), KReps K f Z v d → (v.any fun kv => decide (kv.1 = k)) = d.any fun kv => decide (kv.1 = k)
  | _, _, _, .nil => rfl
  | _, _, k, .cons (r := r) (s := s) q t => by rw [List.any_cons, List.any_cons, KReps.any k t]
theorem KReps.over {y : V} {x : D} {k : Key} (h : Rep K f Z y x) : ∀ {v : List (Key × V)} {d : List (Key × D)}, KReps K f Z v d → KReps K f Z (v.map fun kv => if kv.1 = k then (kv.1, y) else kv) (d.map fun kv => if kv.1 = k then (kv.1, x) else kv)
  | _, _, .nil => .nil
  | _, _, .cons (k := k0) (v := y0) (d := d0) q t => by
    rw [List.map_cons, List.map_cons]
    by_cases e : k0 = k
    · rw [if_pos e, if_pos e]; exact .cons h (KReps.over h t)
    · rw [if_neg e, if_neg e]; exact .cons q (KReps.over h t)
theorem KReps.put {v : List (Key × V)} {d : List (Key × D)} {k : Key} {y : V} {x : D} (r : KReps K f Z v d) (h : Rep K f Z y x) : KReps K f Z (putK v k y) (putD d k x) := by
  unfold putK putD
  rw [r.any k]
  split
  · exact r.over h
  · exact r.app (.cons h .nil)
theorem KReps.merge : ∀ {m : List (Key × V)} {n : List (Key × D)} {v : List (Key × V)} {d : List (Key × D)}, KReps K f Z m n → KReps K f Z v d → KReps K f Z (mergeK v m) (mergeD d n)
  | _, _, _, _, .nil, r => r
  | (k, y) :: m, (_, x) :: n, v, d, .cons q t, r => show KReps K f Z (mergeK (putK v k y) m) (mergeD (putD d k x) n) from KReps.merge t (r.put q)
end
theorem keyD_rep {m : Md} {K : PySem.W.Frag} {f : Addr} {Z H H0 : Hp} {v : V} {d : D} {k : Key} (r : Res m K f H0 Z H v d) (h : keyD d = some k) : v = kV k := by
  cases d with
  | int i => cases h; exact r.int
  | str x => cases h; exact r.str
  | _ => cases h
/-! ### displays -/
abbrev SP := En → Fd → O (List (Key × D))
def pNil : SP := fun _ φ => .ok [] φ
def pCons (A B : SX) (P : SP) : SP := fun ρ φ => (A ρ φ).bind fun k φ1 => (B ρ φ1).bind fun v φ2 => match keyD k with
  | some k => (P ρ φ2).bind fun l φ3 => .ok ((k, v) :: l) φ3
  | none => .bad
def PostP (c : Ct) (W : WX) (o : O (List (Key × D))) (σ : L2.St) (Z H : Hp) (Q : List (V × V) → Hp → Prop) : Prop :=
  match o with
  | .ok l φ => ∀ kvs Z' H', Ext c.f Z H Z' H' → Wf c.K c.f Z' H' φ → KReps c.K c.f Z' kvs l → Q (kvs.map fun kv => (kV kv.1, kv.2)) H'
  | .ex x l φ => ∀ cls dx Z' H', Ext c.f Z H Z' H' → Wf c.K c.f Z' H' φ → XRep c Z' H' x l cls dx → W cls dx σ H'
  | .bad => False
section
variable {X : Cx} {c : Ct} {own : List Ms} {m : Md} {W : WX} {pos : Pos} {Z H Z1 H1 : Hp} {σ : L2.St}
theorem PostP.shift {o : O (List (Key × D))} {Q : List (V × V) → Hp → Prop} (e : Ext c.f Z H Z1 H1) (h : PostP c W o σ Z H Q) : PostP c W o σ Z1 H1 Q := by
  cases o with
  | ok d φ => exact fun v Z' H' e' => h v Z' H' (e.trans e')
  | ex x l φ => exact fun cls dx Z' H' e' => h cls dx Z' H' (e.trans e')
  | bad => exact h
/-- the pairs' trees with their reading -/
def PX (X : Cx) (c : Ct) (own : List Ms) (W : WX) (pos : Pos) (keys : List (Option Expr)) (values : List Expr) (P : SP) : Prop :=
  ∃ trs, PPs X pos keys values trs ∧ ∀ (Z H : Hp) (ρ : En) (φ : Fd) (σ : L2.St) (Q : List (V × V) → Hp → Prop), Rl c own Z ρ φ σ H → PostP c W (P ρ φ) σ Z H Q → tPairs trs σ H Q
theorem px_nil : PX X c own W pos [] [] pNil := ⟨[], pps_nil, fun Z H ρ φ σ Q R h => h [] Z H .refl R.wf .nil⟩
theorem px_cons {k v : Expr} {ks : List (Option Expr)} {vs : List Expr} {A B : SX} {P : SP} (hk : EX X c own .p W k A) (hv : EX X c own .s W v B) (hr : PX X c own W pos ks vs P) : PX X c own W pos (some k :: ks) (v :: vs) (pCons A B P) := by
  obtain ⟨trs, h1, h2⟩ := hr
  refine ⟨_, pps_cons hk hv h1, fun Z H ρ φ σ Q R h => ?_⟩
  show tE c own .p W A σ H _
  refine ⟨Z, ρ, φ, R, Post.bind (E := fun o Z H => PostP c W o σ Z H Q) (fun _ _ _ e h => h.shift e) (fun _ _ _ h => h) (fun h => h) h fun kd φ1 x Z1 H1 e1 w1 r1 h1 => ?_⟩
  show tE c own .s W B σ H1 _
  refine ⟨Z1, ρ, φ1, R.more e1 w1, Post.bind (E := fun o Z H => PostP c W o σ Z H Q) (fun _ _ _ e h => h.shift e) (fun _ _ _ h => h) (fun h => h) h1 fun vd φ2 y Z2 H2 e2 w2 r2 h3 => ?_⟩
  cases hk : keyD kd with
  | none => rw [hk] at h3; exact h3.elim
  | some key =>
    rw [hk] at h3
    refine h2 Z2 H2 ρ φ2 σ _ ((R.more e1 w1).more e2 w2) ?_
    have hx : x = kV key := keyD_rep (r1.pmono e2) hk
    have h3' : PostP c W ((P ρ φ2).bind fun l φ3 => O.ok ((key, vd) :: l) φ3) σ Z2 H2 Q := h3
    cases hP : P ρ φ2 with
    | ok l φ3 =>
      rw [hP] at h3'
      intro kvs Z' H' e' w' r'
      have := h3' ((key, y) :: kvs) Z' H' e' w' (.cons (Rep.mono e'.z r2) r')
      rw [hx]
      exact this
    | ex _ _ _ => rw [hP] at h3'; exact h3'
    | bad => rw [hP] at h3'; exact h3'
def eDsp (P : SP) : SX := fun ρ φ => (P ρ φ).bind fun l φ1 => if l.length ≤ 15 then .ok (.dk (mergeD [] l)) φ1 else .bad
theorem x_dsp {keys : List (Option Expr)} {values : List Expr} {P : SP} (h : PX X c own W pos keys values P) (hall : keys.all (·.isSome) = true := by rfl) (hl : keys.length = values.length := by rfl) (h0 : keys ≠ [] := by exact List.cons_ne_nil _ _) (h15 : keys.length ≤ 15 := by decide) :
    EX X c own .o W (.Dict keys values pos) (eDsp P) := by
  obtain ⟨trs, h1, h2⟩ := h
  refine PE.weak (pe_disp h1 hall hl h0 h15) ?_
  rintro σ H Q ⟨Z, ρ, φ, R, h⟩ p hp
  have w := R.wf
  have hz : Z p = none := by
    cases e : Z p with
    | none => rfl
    | some u => rw [w.sub p u e] at hp; cases hp
  have hf : p ≠ c.f := fun e => w.hf (e ▸ hp)
  have up : ∀ (o : HO) b u, H b = some u → upd H p o b = some u := fun o b u q => by rw [upd_ne (ne_of_none q hp)]; exact q
  have e0 : Ext c.f Z H Z (upd H p (.dK [])) := ⟨fun _ _ q => q, fun b u _ q => up _ b u q, fun b hb => by
    cases e : H b with
    | none => exact absurd e hb
    | some u => rw [up _ b u e]; simp, fun _ _ q => q, .same (upd_ne (Ne.symm hf))⟩
  have w0 : Wf c.K c.f Z (upd H p (.dK [])) φ := ⟨fun b u q => up _ b u (w.sub b u q), w.zf, by
    obtain ⟨s, h1, h2⟩ := w.feed
    exact ⟨s, h1, up _ _ _ h2⟩, w.ok, w.tt.upd (fun _ h => by cases h)⟩
  refine h2 Z _ ρ φ σ _ (R.more e0 w0) ?_
  unfold eDsp at h
  cases hP : P ρ φ with
  | bad => rw [hP] at h; exact h
  | ex x l φ1 =>
    rw [hP] at h
    exact fun cls dx Z' H' e' w' r' => h cls dx Z' H' (e0.trans e') w' r'
  | ok l φ1 =>
    rw [hP] at h
    intro kvs Z' H' e' w' r'
    obtain ⟨hl15, h4⟩ := iteO_ok (E := fun o => Post c .o W o σ Z H Q) h fun z => z
    have hp' : H' p = some (.dK []) := e'.h p _ hf upd_same
    have hz' : Z' p = none := e'.n p (by rw [upd_same]; simp) hz
    have upH : ∀ (o : HO) b u, b ≠ p → H' b = some u → upd H' p o b = some u := fun o b u hb q => by rw [upd_ne hb]; exact q
    refine ⟨hp', kvs, rfl, by rw [r'.length]; exact hl15, ?_⟩
    have e1 : Ext c.f Z H Z' (upd H' p (.dK (mergeK [] kvs))) := by
      refine ⟨e'.z, fun b u hb q => upH _ b u (ne_of_none q hp) (e'.h b u hb (up _ b u q)), fun b hb => ?_, fun b hb q => e'.n b (by
        cases e : H b with
        | none => exact absurd e hb
        | some u => rw [up _ b u e]; simp) q, ?_⟩
      · cases e : H b with
        | none => exact absurd e hb
        | some u =>
          have hbp : b ≠ p := ne_of_none e hp
          rw [upd_ne hbp]
          exact e'.k b (by rw [up _ b u e]; simp)
      · exact (FdK.same (upd_ne (Ne.symm hf))).trans (e'.d.trans (.same (upd_ne (Ne.symm hf))))
    have w1 : Wf c.K c.f Z' (upd H' p (.dK (mergeK [] kvs))) φ1 := ⟨fun b u q => upH _ b u (fun z => by rw [z, hz'] at q; cases q) (w'.sub b u q), w'.zf, by
      obtain ⟨s, h1, h2⟩ := w'.feed
      exact ⟨s, h1, upH _ _ _ (Ne.symm hf) h2⟩, w'.ok, w'.tt.upd (fun _ h => by cases h)⟩
    refine h4 (.ref p) Z' _ e1 w1 ?_
    unfold Res
    rw [if_pos (show (D.dk (mergeD [] l)).mt = true from rfl)]
    exact ⟨p, _, rfl, hp, hz', hf, upd_same, .dk (r'.merge .nil)⟩
/-- {} -/
def eDct0 : SX := fun _ φ => .ok (.dk []) φ
theorem x_dct0 : EX X c own .o W (.Dict [] [] pos) eDct0 := by
  refine PE.weak pe_dnewK ?_
  rintro σ H Q ⟨Z, ρ, φ, R, h⟩
  exact Post.newO R.wf (.dk .nil) h
/-! ### d.get(k, x), d[k], k in d -/
def eDGet (A B C : SX) : SX := fun ρ φ => (A ρ φ).bind fun d φ1 => match d with
  | .dk l => (B ρ φ1).bind fun k φ2 => (C ρ φ2).bind fun z φ3 => (match keyD k with
    | some k => .ok ((valD l k).getD z) φ3
    | none => .bad)
  | _ => .bad
def eDIx (A B : SX) : SX := fun ρ φ => (A ρ φ).bind fun d φ1 => match d with
  | .dk l => (B ρ φ1).bind fun k φ2 => (match keyD k with
    | some k => ofO (valD l k) φ2
    | none => .bad)
  | _ => .bad
variable {o k z : Expr} {A B C : SX} {apos cpos : Pos}
theorem x_dget (hu : X.A.units + 64 < cLine) (ha : EX X c own .p W o A) (hb : EX X c own .p W k B) (hz : EX X c own .s W z C) (hm : M2 X o "get" apos k z cpos := by exact ⟨rfl, rfl, rfl, rfl⟩) : EX X c own .s W (.Call (.Attribute o "get" apos) [k, z] [] cpos) (eDGet A B C) := by
  refine PE.weak (pe_dget2 (by omega) ha hb hz hm) ?_
  rintro σ H Q ⟨Z, ρ, φ, R, h⟩
  refine ⟨Z, ρ, φ, R, Post.bindE h fun d φ1 x Z1 H1 e1 w1 r1 h1 => ?_⟩
  cases d with
  | dk l =>
    obtain ⟨a, kvs, rfl, ha1, rk⟩ := r1.dk w1
    refine ⟨a, rfl, .inl ⟨kvs, Rd.of ha1⟩, Z1, ρ, φ1, R.more e1 w1, Post.bindE h1 fun kd φ2 y Z2 H2 e2 w2 r2 h2 => ?_⟩
    refine ⟨Z2, ρ, φ2, (R.more e1 w1).more e2 w2, Post.bindE h2 fun zd φ3 v Z3 H3 e3 w3 r3 h3 => ?_⟩
    cases hk : keyD kd with
    | none => rw [hk] at h3; exact h3.elim
    | some key =>
      rw [hk] at h3
      obtain ⟨a', kvs', ea, ha3, rk3⟩ := ((r1.pmono e2).pmono e3).dk w3
      cases ea
      have hy : y = kV key := keyD_rep (r2.pmono e3) hk
      refine ⟨valV kvs' key, by rw [hy]; exact DGet.k ha3, ?_⟩
      have h3' : Post c .s W (.ok ((valD l key).getD zd) φ3) σ Z3 H3 Q := h3
      cases hv : valD l key with
      | none =>
        rw [hv] at h3'
        rw [rk3.miss hv]
        exact h3'.now w3 r3
      | some u =>
        rw [hv] at h3'
        obtain ⟨y2, e4, r4⟩ := rk3.hit hv
        rw [e4]
        exact h3'.now w3 r4
  | _ => exact h1.elim
theorem x_dix (hu : X.A.units + 64 < cLine) (ha : EX X c own .p W o A) (hb : EX X c own .p W k B) (hs : NoSl k := by exact fun _ _ => rfl) : EX X c own .s W (.Subscript o k pos) (eDIx A B) := by
  refine PE.weak (pe_dget (by omega) ha hb hs) ?_
  rintro σ H Q ⟨Z, ρ, φ, R, h⟩
  refine ⟨Z, ρ, φ, R, Post.bindE h fun d φ1 x Z1 H1 e1 w1 r1 h1 => ?_⟩
  cases d with
  | dk l =>
    refine ⟨Z1, ρ, φ1, R.more e1 w1, Post.bindE h1 fun kd φ2 y Z2 H2 e2 w2 r2 h2 => ?_⟩
    cases hk : keyD kd with
    | none => rw [hk] at h2; exact h2.elim
    | some key =>
      rw [hk] at h2
      obtain ⟨a, kvs, rfl, ha2, rk⟩ := (r1.pmono e2).dk w2
      have hy : y = kV key := keyD_rep r2 hk
      obtain ⟨z, hz, h3⟩ := ofO_ok (E := fun o => Post c .s W o σ Z2 H2 Q) h2 fun z => z
      obtain ⟨v, e4, r4⟩ := rk.hit hz
      exact ⟨a, v, rfl, by rw [hy, ← e4]; exact DGet.k ha2, h3.now w2 r4⟩
  | _ => exact h1.elim
end
end Pf

set_option Elab.async false
set_option linter.all false
set_option maxRecDepth 100000
set_option maxHeartbeats 4000000
namespace Pf
open PySem PySem.Spec PyProof.Rows L2

/-! ## a module's constants that are tuples, and dicts with ints as keys -/
def repF (u : Value) (d : D) : Bool := match u, d with
  | .int i _, .int j => i == j
  | .str x _, .str y => decide (x = y)
  | .none, .non => true
  | .bool b, .bl c => b == c
  | _, _ => false
def repFs : List Value → List D → Bool
  | [], [] => true
  | u :: us, d :: ds => repF u d && repFs us ds
  | _, _ => false
def repB (_ : PySem.W.Frag) (u : Value) (d : D) : Bool := repF u d
theorem repF_ok {u : Value} {d : D} (h : repF u d = true) : ∃ v, RelV v u ∧ ∀ K f Z, Rep K f Z v d := by
  unfold repF at h
  split at h
  · rename_i i t j
    exact ⟨.int i, ⟨t, rfl⟩, fun K f Z => by rw [beq_iff_eq] at h; subst h; exact .int _⟩
  · rename_i x t y
    exact ⟨.str x, ⟨t, rfl⟩, fun K f Z => by rw [decide_eq_true_eq] at h; subst h; exact .str _⟩
  · exact ⟨.non, rfl, fun K f Z => .non⟩
  · rename_i b d
    exact ⟨.bl b, rfl, fun K f Z => by rw [beq_iff_eq] at h; subst h; exact .bl _⟩
  · cases h
theorem repFs_ok : ∀ {us : List Value} {ds : List D}, repFs us ds = true → ∃ vs, Vals vs us ∧ ∀ K f Z, Reps K f Z vs ds
  | [], [], _ => ⟨[], .nil, fun _ _ _ => .nil⟩
  | u :: us, d :: ds, h => by
    have h' : (repF u d && repFs us ds) = true := h
    rw [Bool.and_eq_true] at h'
    obtain ⟨v, h1, h2⟩ := repF_ok h'.1
    obtain ⟨vs, h3, h4⟩ := repFs_ok h'.2
    exact ⟨v :: vs, .cons h1 h3, fun K f Z => .cons (h2 K f Z) (h4 K f Z)⟩
  | [], _ :: _, h => by cases h
  | _ :: _, [], h => by cases h
theorem repB_ok {K : PySem.W.Frag} {u : Value} {d : D} (h : repB K u d = true) : ∃ v, RelV v u ∧ ∀ f Z, Rep K f Z v d := by
  obtain ⟨v, h1, h2⟩ := repF_ok h
  exact ⟨v, h1, fun f Z => h2 K f Z⟩
def gdB (K : PySem.W.Frag) (p : Addr) (tbl : List (Int × D)) : Bool := match K.lookup p with
  | some ⟨.type n, none, .dict es _, sl⟩ => n == "dict" && sl.isEmpty && es.toList.all (fun e => match e.key with | .int i _ => e.hash == hashInt i | _ => false) && tbl.all fun kd => match findBy Value.isInt es kd.1 with | some u => repB K u kd.2 | none => false
  | _ => false
def gdF (tbl : List (Int × D)) (k : D) : Option D := match k with
  | .int i => (tbl.find? fun kd => decide (kd.1 = i)).map (·.2)
  | _ => none
def rGd (P : Program) (w : World) (K : PySem.W.Frag) : R2 := fun x y H Q => ∃ p i es n u v, x = .ref p ∧ y = .int i ∧ K.lookup p = some ⟨.type "dict", none, .dict es n, #[]⟩ ∧ KeysOf (intKind P w) es ∧ findBy Value.isInt es i = some u ∧ RelV v u ∧ Q v H
theorem ix_gd {X : Cx} : IxR X (rGd X.prog X.w X.K) := by
  intro value slice pins s σ H x y v u Q I rx ry h hs
  obtain ⟨p, i, es, n, u0, r, rfl, rfl, hl, hk, hf, ru, q⟩ := h
  obtain rfl : v = Value.ref p := rx
  obtain ⟨t, rfl⟩ := ry
  have hm : s.heap.MapOf (intKind X.prog X.w) p (fun k => findBy Value.isInt es k) := ⟨_, es, n, I.kIn _ _ hl, ⟨rfl, rfl, rfl⟩, rfl, hk, fun _ => rfl⟩
  exact tail_any hm.typeIs slot_dict_getitem.lookup (wpAny_getItem_of (intKind_is X.prog X.w i t) hm hf ⟨r, H, I.tok _, ru, q⟩) hs
section
variable {X : Cx} {c : Ct} {own : List Ms} {m : Md} {W : WX} {pos p0 : Pos}
/-- T[k], T a dict of the module -/
def eGIx (tbl : List (Int × D)) (B : SX) : SX := fun ρ φ => (B ρ φ).bind fun k φ1 => ofO (gdF tbl k) φ1
theorem gd_at {p : Addr} {tbl : List (Int × D)} {i : Int} {d : D} (h : gdB X.K p tbl = true) (hd : gdF tbl (.int i) = some d) :
    ∃ es n u v, X.K.lookup p = some ⟨.type "dict", none, .dict es n, #[]⟩ ∧ KeysOf (intKind X.prog X.w) es ∧ findBy Value.isInt es i = some u ∧ RelV v u ∧ ∀ f Z, Rep X.K f Z v d := by
  unfold gdB at h
  split at h
  · rename_i n es m sl ho
    rw [Bool.and_eq_true, Bool.and_eq_true, Bool.and_eq_true, List.all_eq_true, List.all_eq_true] at h
    obtain ⟨⟨⟨h1, h2⟩, h3⟩, h4⟩ := h
    have hd' : (tbl.find? fun kd => decide (kd.1 = i)).map (·.2) = some d := hd
    obtain ⟨kd, e1, e2⟩ := Option.map_eq_some_iff.mp hd'
    have hk : kd.1 = i := by simpa using List.find?_some e1
    have h5 := h4 kd (List.mem_of_find?_eq_some e1)
    rw [hk] at h5
    split at h5
    · rename_i u hu
      obtain ⟨v, r1, r2⟩ := repB_ok h5
      refine ⟨es, m, u, v, ?_, fun e he => ?_, hu, r1, fun f Z => by rw [← e2]; exact r2 f Z⟩
      · rw [ho, beq_iff_eq.mp h1, Array.isEmpty_iff.mp h2]
      · have := h3 e (Array.mem_toList_iff.mpr he)
        split at this
        · rename_i j t hj
          exact ⟨j, by rw [hj]; exact intKind_is X.prog X.w j t, beq_iff_eq.mp this⟩
        · cases this
    · cases h5
  · cases h
theorem x_gdix {x : Str} {p : Addr} {tbl : List (Int × D)} {k : Expr} {B : SX} (hK : X.K = c.K) (hm : X.mg x = some (.ref p)) (ht : gdB X.K p tbl = true) (hb : EX X c own .p W k B) (hg : Gl X x := by rfl) (hd : (x == ("__debug__" : Str)) = false := by decide) (hs : PlainIx k := by exact fun _ _ => rfl) :
    EX X c own .s W (.Subscript (.Name x p0) k pos) (eGIx tbl B) := by
  refine PE.weak (pe_ix (ix_gd (X := X)) (pe_glob (v := V.ref p) (pos := p0) hg hm rfl hd) hb hs) ?_
  rintro σ H Q ⟨Z, ρ, φ, R, h⟩
  refine ⟨Z, ρ, φ, R, Post.bindE h fun kd φ1 y Z1 H1 e1 w1 r1 h1 => ?_⟩
  obtain ⟨z, hz, h2⟩ := ofO_ok (E := fun o => Post c .s W o σ Z1 H1 Q) h1 fun z => z
  cases kd with
  | int i =>
    obtain ⟨es, n, u, v, e1, e2, e3, e4, e5⟩ := gd_at ht hz
    exact ⟨p, i, es, n, u, v, rfl, r1.int, e1, e2, e3, e4, h2.now w1 (by rw [← hK]; exact e5 c.f Z1)⟩
  | _ => cases hz
/-- a module's tuple -/
theorem x_gtup {x : Str} {u : Value} {d : D} (hK : X.K = c.K) (hm : X.mg x = some u) (ht : repB X.K u d = true) (hf : d.mt = false := by rfl) (hg : Gl X x := by rfl) (hd : (x == ("__debug__" : Str)) = false := by decide) :
    EX X c own .o W (.Name x pos) (fun _ φ => .ok d φ) := by
  obtain ⟨v, h1, h2⟩ := repB_ok ht
  exact PE.weak (pe_glob hg hm h1 hd) fun σ H Q ⟨Z, ρ, φ, R, h⟩ => h _ Z H .refl R.wf (Res.of_flat (by rw [← hK]; exact h2 _ _) hf)
/-! ## is True, is False -/
def gIsB : D → D → Option D
  | .bl a, .bl b => some (.bl (decide (a = b)))
  | _, _ => none
def gIsNotB : D → D → Option D
  | .bl a, .bl b => some (.bl (!decide (a = b)))
  | _, _ => none
theorem gIsB_ok : OpG (fun x y H Q => ∃ a b, x = .bl a ∧ y = .bl b ∧ Q (.bl (decide (a = b))) H) m c gIsB := by
  intro Z H φ x y d e z W σ Q w rx ry hg h
  cases d with
  | bl a =>
    cases e with
    | bl b => cases hg; exact ⟨a, b, rx.bl, ry.bl, h.nowB w⟩
    | _ => cases hg
  | _ => cases e <;> cases hg
theorem gIsNotB_ok : OpG (fun x y H Q => ∃ a b, x = .bl a ∧ y = .bl b ∧ Q (.bl (!decide (a = b))) H) m c gIsNotB := by
  intro Z H φ x y d e z W σ Q w rx ry hg h
  cases d with
  | bl a =>
    cases e with
    | bl b => cases hg; exact ⟨a, b, rx.bl, ry.bl, h.nowB w⟩
    | _ => cases hg
  | _ => cases e <;> cases hg
variable {a b : Expr} {A B : SX}
theorem x_isB (ha : EX X c own .p W a A) (hb : EX X c own .p W b B) : EX X c own .o W (.Compare a [.Is] [b] pos) (eBin gIsB A B) := x_cmp op_is_bl gIsB_ok ha hb (nomark _)
theorem x_isnotB (ha : EX X c own .p W a A) (hb : EX X c own .p W b B) : EX X c own .o W (.Compare a [.IsNot] [b] pos) (eBin gIsNotB A B) := x_cmp op_isnot_bl gIsNotB_ok ha hb (nomark _)
theorem b_isB (ha : EX X c own .p W a A) (hb : EX X c own .p W b B) : BX X c own W (.Compare a [.Is] [b] pos) (bCmp gIsB A B) := b_cmp op_is_bl gIsB_ok ha hb (nomark _)
theorem b_isnotB (ha : EX X c own .p W a A) (hb : EX X c own .p W b B) : BX X c own W (.Compare a [.IsNot] [b] pos) (bCmp gIsNotB A B) := b_cmp op_isnot_bl gIsNotB_ok ha hb (nomark _)
end
end Pf

set_option Elab.async false
set_option linter.all false
set_option maxRecDepth 100000
set_option maxHeartbeats 4000000
namespace Pf
open PySem PySem.Spec PyProof.Rows L2

/-! ## x.count(k), whole numbers -/
def gCnt (l : List D) : D → Option D
  | .int k => (intsOf l).map fun ns => .int (ns.count k : Nat)
  | _ => none
def eCnt (A B : SX) : SX := fun ρ φ => (A ρ φ).bind fun d φ1 => match d with
  | .lst l => (B ρ φ1).bind fun k φ2 => ofO (gCnt l k) φ2
  | _ => .bad
section
variable {X : Cx} {c : Ct} {own : List Ms} {m : Md} {W : WX} {a b e : Expr} {A B : SX} {pos apos cpos : Pos}
theorem x_cnt (hK : X.K = c.K) (ha : EX X c own .p W a A) (hb : EX X c own .p W e B)
    (hbase : attributeBase a "count" X.env (eval a X.env) = eval a X.env := by rfl)
    (hfew : ((backTo cpos (starEach [e] X.env)).all (fun x => !x.1) && (backToKw cpos (keywordEach [] X.env)).all (fun x => x.1.isSome) && decide ([e].length + ([] : List Keyword).length + (if ([] : List Keyword).isEmpty then 0 else 1) < 30)) = true := by rfl)
    (hline : (apos.endLine == cpos.line) = true := by rfl) (hse : starEach [e] X.env = (false, eval e X.env) :: starEach [] X.env := by rfl) (hplain : (backTo cpos (starEach [] X.env)).any (·.1) = false := by rfl) :
    EX X c own .o W (.Call (.Attribute a "count" apos) [e] [] cpos) (eCnt A B) := by
  refine PE.weak (pe_bm PySem.F.plainAttrs_list PySem.F.slot_list_count PySem.F.type_list_count mt_lcount ha (pa_cons hb pa_nil hse) hbase hfew hline hse hplain) ?_
  rintro σ H Q ⟨Z, ρ, φ, R, h⟩
  refine ⟨Z, ρ, φ, R, Post.bindE h fun d φ1 x Z1 H1 e1 w1 r1 h1 => ?_⟩
  have r1' : Res .p c.K c.f H1 Z1 H1 x d := r1
  cases d with
  | lst l =>
    obtain ⟨p, vs, rfl, hp, rs⟩ := r1'.lst w1
    refine ⟨.inl ⟨rfl, vs, by rw [hK]; exact SqL.of hp⟩, Z1, ρ, φ1, R.more e1 w1, Post.bindE h1 fun k φ2 y Z2 H2 e2 w2 r2 h2 => ?_⟩
    obtain ⟨z, hz, h3⟩ := ofO_ok (E := fun o => Post c .o W o σ Z2 H2 Q) h2 fun z => z
    cases k with
    | int k =>
      obtain ⟨ns, en, rfl⟩ := Option.map_eq_some_iff.mp hz
      obtain ⟨p', e', hp'⟩ := ints_arg w2 (show Res .p c.K c.f H2 Z2 H2 (.ref p) (.lst l) from r1'.pmono e2) en
      cases e'
      exact ⟨p, ns, k, rfl, by rw [(show Res .p c.K c.f H1 Z2 H2 y (.int k) from r2).int], by rw [hK]; exact hp', h3.nowI w2⟩
    | _ => cases hz
  | _ => exact h1.elim
end

/-! ## results that are new down to a depth -/
section
variable {X : Cx} {c : Ct} {own o1 : List Ms} {m : Md} {W : WX} {e : Expr} {A : SX} {pos : Pos} {n : Nat}
theorem EX.o2d (h : EX X c own .o W e A) : EX X c own (.d 1) W e A := by
  refine PE.weak h ?_
  rintro σ H Q ⟨Z, ρ, φ, R, p⟩
  refine ⟨Z, ρ, φ, R, p.mode fun d φ v Z' H' e w r => ?_⟩
  by_cases hm : d.mt = true
  · unfold Res at r
    rw [if_pos hm] at r
    obtain ⟨a, o, rfl, h0, hz, hf, ha, rc⟩ := r
    obtain ⟨e2, w2, r2⟩ := freeze e w h0 hz hf ha rc
    refine ⟨_, e2, w2, r2, ?_⟩
    cases d with
    | lst l =>
      cases rc with
      | lst rs => exact ⟨a, _, rfl, upd_same, h0, fun _ _ _ _ _ => trivial⟩
    | _ => trivial
  · unfold Res at r
    rw [if_neg hm] at r
    exact ⟨Z', e, w, r, .flat (by simpa using hm)⟩
theorem EX.d2s (h : EX X c own (.d n) W e A) : EX X c own .s W e A := by
  refine PE.weak h ?_
  rintro σ H Q ⟨Z, ρ, φ, R, p⟩
  cases hA : A ρ φ with
  | ok d φ1 =>
    rw [hA] at p
    exact ⟨Z, ρ, φ, R, by rw [hA]; exact fun v Z' H' e w r => p v Z' H' e w r.1⟩
  | ex y l φ1 => rw [hA] at p; exact ⟨Z, ρ, φ, R, by rw [hA]; exact p⟩
  | bad => rw [hA] at p; exact p.elim
/-- .. of each item -/
def FrA (H0 Z : Hp) (n : Nat) (vs : List V) (ds : List D) : Prop := ∀ (i : Nat) u e, vs[i]? = some u → ds[i]? = some e → Nw H0 Z n u e
theorem FrA.nil {H0 Z : Hp} : FrA H0 Z n [] [] := fun i u e h => by simp at h
theorem FrA.mono {H0 Z Z' : Hp} {vs : List V} {ds : List D} (q : FrA H0 Z n vs ds) (h : ∀ a o, Z a = some o → Z' a = some o) : FrA H0 Z' n vs ds := fun i u e h1 h2 => (q i u e h1 h2).mono h
theorem FrA.start {H0 H1 Z : Hp} {vs : List V} {ds : List D} (q : FrA H1 Z n vs ds) (k : ∀ a, H0 a ≠ none → H1 a ≠ none) : FrA H0 Z n vs ds := fun i u e h1 h2 => (q i u e h1 h2).start k
theorem FrA.cons {H0 Z : Hp} {v : V} {d : D} {vs : List V} {ds : List D} (h : Nw H0 Z n v d) (q : FrA H0 Z n vs ds) : FrA H0 Z n (v :: vs) (d :: ds) := fun i u e h1 h2 => by
  cases i with
  | zero => simp at h1 h2; subst h1; subst h2; exact h
  | succ i => exact q i u e (by simpa using h1) (by simpa using h2)
theorem FrA.app {H0 Z : Hp} {v : V} {d : D} {vs : List V} {ds : List D} (q : FrA H0 Z n vs ds) (hl : vs.length = ds.length) (h : Nw H0 Z n v d) : FrA H0 Z n (vs ++ [v]) (ds ++ [d]) := fun i u e h1 h2 => by
  by_cases hi : i < vs.length
  · rw [List.getElem?_append_left hi] at h1
    rw [List.getElem?_append_left (by omega)] at h2
    exact q i u e h1 h2
  · rw [List.getElem?_append_right (by omega)] at h1
    rw [List.getElem?_append_right (by omega)] at h2
    rw [hl] at h1
    cases hk : i - ds.length with
    | zero => rw [hk] at h1 h2; simp at h1 h2; subst h1; subst h2; exact h
    | succ k => rw [hk] at h1; simp at h1
end
section
variable {X : Cx} {c : Ct} {own o1 : List Ms} {q : Bool} {W : WX} {pos : Pos}
theorem lcD_read {n : Nat} {I : SA} {T : Tg} {tst : SB} {elt : SX} {vs is : List Nat} {σ : L2.St} {H : Hp} {Q : VK} (his : ∀ j ∈ is, j ∈ vs) (h : tE c own (.d (n + 1)) W (eLc I T tst elt vs) σ H Q) :
    tLc (tI c own true W I) (tT c (ownB own vs) o1 is T) (tB c o1 W0 tst) (tE c o1 (.d n) W0 elt) vs σ H Q := by
  obtain ⟨Z, ρ, φ, R, h⟩ := h
  refine ⟨Z, ρ, φ, R, ?_⟩
  unfold eLc at h
  cases hI : I ρ φ with
  | bad => rw [hI] at h; exact h
  | ex y l φ' => rw [hI] at h; exact h
  | ok ds φ1 =>
    rw [hI] at h
    intro J Z1 H1 e1 w1 wk D hD
    have hgo : ∃ ys φ2, lcGo T tst elt (wipeE ρ vs) ds φ1 = .ok ys φ2 ∧ ys.length ≤ sizeLine ∧ Post c (.d (n + 1)) W (.ok (.lst ys) φ2) σ Z H Q := by
      have h' : Post c (.d (n + 1)) W (match lcGo T tst elt (wipeE ρ vs) ds φ1 with
        | .ok ys φ2 => if ys.length ≤ sizeLine then .ok (.lst ys) φ2 else .bad
        | _ => .bad) σ Z H Q := h
      cases hg : lcGo T tst elt (wipeE ρ vs) ds φ1 with
      | bad => rw [hg] at h'; exact h'.elim
      | ex _ _ _ => rw [hg] at h'; exact h'.elim
      | ok ys φ2 =>
        rw [hg] at h'
        obtain ⟨h1, h2⟩ := iteO_ok (E := fun o => Post c (.d (n + 1)) W o σ Z H Q) h' fun z => z
        exact ⟨ys, φ2, rfl, h1, h2⟩
    obtain ⟨tot, φe, hgo, hsz, hpost⟩ := hgo
    have hDf : D ≠ c.f := fun e => w1.hf (by rw [← e]; exact hD)
    have hDz : ∀ Z2 H2, Ext c.f Z1 H1 Z2 H2 → True := fun _ _ _ => trivial
    -- the invariant
    refine ⟨fun i m Hn => m = ds.length - i ∧ i ≤ ds.length ∧ ∃ Zn φn acc accV rest, (∀ a o, Z1 a = some o → Zn a = some o) ∧ (∀ a o, a ≠ c.f → H1 a = some o → Hn a = some o) ∧ (∀ a, H1 a ≠ none → Hn a ≠ none) ∧ (∀ a, H1 a ≠ none → Z1 a = none → Zn a = none) ∧ FdK c.f H1 Hn ∧
      Zn D = none ∧ Wf c.K c.f Zn Hn φn ∧ Hn D = some (.lst accV) ∧ Reps c.K c.f Zn accV acc ∧ FrA H Zn n accV acc ∧ lcGo T tst elt (wipeE ρ vs) (ds.drop i) φn = .ok rest φe ∧ acc ++ rest = tot, ⟨ds.length, by simp, Nat.zero_le _, ?_⟩, ?_⟩
    · have up : ∀ b u, H1 b = some u → upd H1 D (.lst []) b = some u := fun b u e => by rw [upd_ne (ne_of_none e hD)]; exact e
      have hz : Z1 D = none := by
        cases e : Z1 D with
        | none => rfl
        | some u => rw [w1.sub D u e] at hD; cases hD
      refine ⟨Z1, φ1, [], [], tot, fun _ _ e => e, fun b u _ e => up b u e, fun b hb => ?_, fun _ _ e => e, .same (upd_ne (Ne.symm hDf)), hz, ⟨fun b u e => up b u (w1.sub b u e), w1.zf, ?_, w1.ok, w1.tt.upd (fun _ h => by cases h)⟩, upd_same, .nil, .nil, hgo, rfl⟩
      · cases e : H1 b with
        | none => exact absurd e hb
        | some u => rw [up b u e]; simp
      · obtain ⟨s, k1, k2⟩ := w1.feed
        exact ⟨s, k1, up _ _ k2⟩
    · rintro i m Hn ⟨rfl, hi, Zn, φn, acc, accV, rest, kz, kh, kk, kn, kd, nD, wn, hDn, ra, fa, hg, ht⟩
      have en : Ext c.f Z1 H1 Zn Hn := ⟨kz, kh, kk, kn, kd⟩
      obtain ⟨wk1, wk2⟩ := wk i Zn Hn φn ⟨kz, fun _ => kh, (((R.more e1 w1).ext.trans en)).h⟩ wn
      by_cases hlt : i < ds.length
      · obtain ⟨d, hd⟩ : ∃ d, ds[i]? = some d := ⟨_, List.getElem?_eq_getElem hlt⟩
        obtain ⟨go, step⟩ := wk2 d hd
        rw [List.drop_eq_getElem_cons hlt] at hg
        have hdd : ds[i] = d := by
          rw [List.getElem?_eq_getElem hlt] at hd
          exact Option.some.inj hd
        rw [hdd] at hg
        obtain ⟨ρ1, b, φt, hT, htst, hcase⟩ := lcGo_cons hg
        refine .inr ⟨go, fun H' => ∃ m', m' < ds.length - i ∧ (m' = ds.length - (i + 1) ∧ i + 1 ≤ ds.length ∧ ∃ Zn φn acc accV rest, (∀ a o, Z1 a = some o → Zn a = some o) ∧ (∀ a o, a ≠ c.f → H1 a = some o → H' a = some o) ∧ (∀ a, H1 a ≠ none → H' a ≠ none) ∧ (∀ a, H1 a ≠ none → Z1 a = none → Zn a = none) ∧ FdK c.f H1 H' ∧
          Zn D = none ∧ Wf c.K c.f Zn H' φn ∧ H' D = some (.lst accV) ∧ Reps c.K c.f Zn accV acc ∧ FrA H Zn n accV acc ∧ lcGo T tst elt (wipeE ρ vs) (ds.drop (i + 1)) φn = .ok rest φe ∧ acc ++ rest = tot), fun H' h => h, fun x Hx hx => ?_⟩
        obtain ⟨Zx, ex, wx, rx⟩ := step x Hx hx
        have exx := en.trans ex
        have Rb : Rl c (ownB own vs) Zx (wipeE ρ vs) φn (L2.wipe σ vs) Hx := ((R.more e1 w1).more exx wx).block vs
        refine ⟨Zx, wipeE ρ vs, φn, d, ρ1, Rb, rx, hT, fun σ2 tr agr => ⟨?_, Zx, ρ1, φn, tr Zx Hx φn Sub.refl Rb, ?_⟩⟩
        · have hh : L2.wipe σ2 vs = L2.wipe (L2.wipe σ vs) vs := agr.wipe his
          rw [hh]
          refine Agr.wipe (is := vs) ⟨wipe_length _ _, fun j hj => wipe_out hj⟩ fun j h => h
        · have R2 := tr Zx Hx φn Sub.refl Rb
          have nDx : Zx D = none := ex.n D (by rw [hDn]; simp) nD
          have hDx : Hx D = some (.lst accV) := ex.h D _ hDf hDn
          rw [htst]
          intro Z3 H3 e3 w3
          have nD3 : Z3 D = none := e3.n D (by rw [hDx]; simp) nDx
          have hD3 : H3 D = some (.lst accV) := e3.h D _ hDf hDx
          have en3 := exx.trans e3
          have ra3 := (ra.mono ex.z).mono e3.z
          have fa3 := (fa.mono ex.z).mono e3.z
          rcases hcase with ⟨rfl, hr⟩ | ⟨rfl, y, φy, r, hy, hr, hys⟩
          · rw [if_neg (by decide)]
            exact ⟨ds.length - (i + 1), by omega, rfl, hlt, Z3, φt, acc, accV, rest, en3.z, en3.h, en3.k, en3.n, en3.d, nD3, w3, hD3, ra3, fa3, hr, ht⟩
          · rw [if_pos rfl]
            refine ⟨Z3, ρ1, φt, R2.more e3 w3, ?_⟩
            rw [hy]
            intro v Z4 H4 e4 w4 r4
            have r4' : Rep c.K c.f Z4 v y := r4.1
            have nD4 : Z4 D = none := e4.n D (by rw [hD3]; simp) nD3
            have hD4 : H4 D = some (.lst accV) := e4.h D _ hDf hD3
            have en4 := en3.trans e4
            have ra4 := ra3.mono e4.z
            have fa4 := (fa3.mono e4.z).app ra4.length (r4.2.start (e1.trans en3).k)
            have hacc : accV.length < sizeLine := by
              have h1 := ra.length
              have h2 : (acc ++ rest).length ≤ sizeLine := by rw [ht]; exact hsz
              rw [hys, List.length_append, List.length_cons] at h2
              omega
            refine ⟨accV, hD4, hacc, ds.length - (i + 1), by omega, rfl, hlt, Z4, φy, acc ++ [y], accV ++ [v], r, en4.z, fun a o ha hh => ?_, fun a ha => ?_, en4.n, en4.d.trans (.same (upd_ne (Ne.symm hDf))), nD4, ⟨fun a o ha => ?_, w4.zf, ?_, w4.ok, w4.tt.upd (fun _ h => by cases h)⟩, upd_same, ra4.app (.cons r4' .nil), fa4, hr, ?_⟩
            · rw [upd_ne (ne_of_none hh hD)]; exact en4.h a o ha hh
            · by_cases hb : a = D
              · rw [hb, upd_same]; simp
              · rw [upd_ne hb]; exact en4.k a ha
            · rw [upd_ne (fun e => by rw [e, nD4] at ha; cases ha)]; exact w4.sub a o ha
            · obtain ⟨s, k1, k2⟩ := w4.feed
              exact ⟨s, k1, by rw [upd_ne (Ne.symm hDf)]; exact k2⟩
            · rw [List.append_assoc]; rw [← ht, hys]; rfl
      · have hie : i = ds.length := by omega
        refine .inl ⟨wk1 hie, ?_⟩
        rw [hie, List.drop_length] at hg
        cases hg
        rw [List.append_nil] at ht
        subst ht
        have e2 := e1.trans en
        have h0 : H D = none := by
          cases e : H D with
          | none => rfl
          | some u => exact absurd hD (e1.k D (by rw [e]; simp))
        obtain ⟨e3, w3, r3⟩ := freeze e2 wn h0 nD hDf hDn (.lst ra)
        have up : ∀ b u, Zn b = some u → upd Zn D (.lst accV) b = some u := fun b u q => by rw [upd_ne (ne_of_none q nD)]; exact q
        exact hpost (.ref D) _ Hn e3 w3 ⟨r3, D, accV, rfl, upd_same, h0, fa.mono up⟩
theorem x_lcD {n : Nat} {elt tg iter : Expr} {ifs : List Expr} {scope : Scope} (nm : List (Str × Nat)) {is : List Nat} {I : SA} {T : Tg} {tst : SB} {elt' : SX} (hc : X.calm = true) (hN : X.N.Nodup) (ok : blkC X.N X.env.scope scope nm = true)
    (hi : IJ X c own true W tg iter I)
    (hg : ∀ (s : Shared) (H : Hp) (C : Addr) (cl : List (Str × Addr)) (fp : List Addr), TJ (X.blk s H scope (compEnvC scope cl C X.env) fp) c (ownB own (nm.map (·.2))) o1 is tg T)
    (ht : ∀ (s : Shared) (H : Hp) (C : Addr) (cl : List (Str × Addr)) (fp : List Addr), PTs (X.blk s H scope (compEnvC scope cl C X.env) fp) ifs (tB c o1 W0 tst))
    (he : ∀ (s : Shared) (H : Hp) (C : Addr) (cl : List (Str × Addr)) (fp : List Addr), EX (X.blk s H scope (compEnvC scope cl C X.env) fp) c o1 (.d n) W0 elt elt')
    (hs : ∀ x, foldedSetIterable iter X.env x = pure x := by intro _; rfl) (hsub : ∀ j ∈ is, j ∈ nm.map (·.2) := by decide) :
    EX X c own (.d (n + 1)) W (.ListComp elt [⟨tg, iter, ifs, 0⟩] scope pos) (eLc I T tst elt' (nm.map (·.2))) :=
  PE.weak (pe_lc hc hN hi (blkOk_by ok) hg ht he hs) fun _ _ _ h => lcD_read hsub h
end
end Pf
namespace Pf
open PySem PySem.Spec PyProof.Rows L2
section
variable {X : Cx} {c : Ct} {own o1 : List Ms} {W : WX} {pos : Pos} {n : Nat}
theorem x_consD {e : Expr} {es : List Expr} {A : SX} {B : SA} (ha : EX X c own (.d n) W e A) (hb : AX X c own (.d n) W es B) (hs : starEach (e :: es) X.env = (false, eval e X.env) :: starEach es X.env := by rfl) : AX X c own (.d n) W (e :: es) (aCons A B) := by
  refine PA.weak (pa_cons ha hb hs) ?_
  rintro σ H Q ⟨Z, ρ, φ, R, h⟩
  unfold aCons at h
  refine ⟨Z, ρ, φ, R, ?_⟩
  cases hA : A ρ φ with
  | bad => rw [hA] at h; exact h.elim
  | ex y l φ1 => rw [hA] at h; exact h
  | ok d φ1 =>
    rw [hA] at h
    intro v Z1 H1 e1 w1 r1
    refine ⟨Z1, ρ, φ1, R.more e1 w1, ?_⟩
    have h' : PostA c (.d n) W ((B ρ φ1).bind fun ds φ2 => .ok (d :: ds) φ2) σ Z H Q := h
    cases hB : B ρ φ1 with
    | bad => rw [hB] at h'; exact h'.elim
    | ex y l φ2 => rw [hB] at h'; exact fun cls dx Z' H' e' w' r => h' cls dx Z' H' (e1.trans e') w' r
    | ok ds φ2 =>
      rw [hB] at h'
      exact fun vs Z2 H2 e2 w2 r2 => h' (v :: vs) Z2 H2 (e1.trans e2) w2 ⟨r1.mono e2, r2.start e1.k⟩
theorem RAll.repsD {K : PySem.W.Frag} {f : Addr} {H0 Z H : Hp} : ∀ {vs : List V} {ds : List D}, RAll (.d n) K f H0 Z H vs ds → Reps K f Z vs ds ∧ FrA H0 Z n vs ds
  | [], [], _ => ⟨.nil, .nil⟩
  | _ :: _, _ :: _, h => ⟨.cons h.1.1 (RAll.repsD h.2).1, .cons h.1.2 (RAll.repsD h.2).2⟩
theorem x_lstD {es : List Expr} {A : SA} (ha : AX X c own (.d n) W es A) : EX X c own (.d (n + 1)) W (.List es pos) (eLst A) := by
  refine PE.weak (pe_lst ha) ?_
  rintro σ H Q ⟨Z, ρ, φ, R, h⟩
  refine ⟨Z, ρ, φ, R, ?_⟩
  unfold eLst at h
  cases hA : A ρ φ with
  | bad => rw [hA] at h; exact h.elim
  | ex y l φ1 => rw [hA] at h; exact h
  | ok ds φ1 =>
    rw [hA] at h
    intro vs Z1 H1 e1 w1 r1
    obtain ⟨hl, h2⟩ := iteO_ok (E := fun o => Post c (.d (n + 1)) W o σ Z H Q) h fun z => z
    obtain ⟨rs, fs⟩ := r1.repsD
    refine ⟨by rw [rs.length]; exact hl, fun p hp => ?_⟩
    have hz : Z1 p = none := by
      cases e : Z1 p with
      | none => rfl
      | some u => rw [w1.sub p u e] at hp; cases hp
    have hf : p ≠ c.f := fun e => w1.hf (e ▸ hp)
    have up : ∀ b u, H1 b = some u → upd H1 p (.lst vs) b = some u := fun b u q => by rw [upd_ne (ne_of_none q hp)]; exact q
    have e2 : Ext c.f Z1 H1 Z1 (upd H1 p (.lst vs)) := ⟨fun _ _ q => q, fun b u _ q => up b u q, fun b hb => by
      cases e : H1 b with
      | none => exact absurd e hb
      | some u => rw [up b u e]; simp, fun _ _ q => q, .same (upd_ne (Ne.symm hf))⟩
    have w2 : Wf c.K c.f Z1 (upd H1 p (.lst vs)) φ1 := ⟨fun b u q => up b u (w1.sub b u q), w1.zf, by
      obtain ⟨s, h1, h2⟩ := w1.feed
      exact ⟨s, h1, up _ _ h2⟩, w1.ok, w1.tt.upd (fun _ h => by cases h)⟩
    have h0 : H p = none := Classical.byContradiction fun q => e1.k p q hp
    obtain ⟨e3, w3, r3⟩ := freeze (e1.trans e2) w2 h0 hz hf upd_same (.lst rs)
    have upz : ∀ b u, Z1 b = some u → upd Z1 p (.lst vs) b = some u := fun b u q => by rw [upd_ne (ne_of_none q hz)]; exact q
    exact h2 (.ref p) _ _ e3 w3 ⟨r3, p, vs, rfl, upd_same, h0, fs.mono upz⟩
end

end Pf

set_option Elab.async false
set_option linter.all false
set_option maxRecDepth 100000
set_option maxHeartbeats 4000000
namespace Pf
open PySem PySem.Spec PyProof.Rows L2

/-! ## dicts: d[k] = x, k in d -/
section
variable {X : Cx} {c : Ct} {w : Ow} {own on o1 : List Ms} {m : Md} {W : WX} {pos : Pos} {A B : SX} {o k : Expr}
theorem Rl.cellK {Z H : Hp} {ρ : En} {φ : Fd} {σ : L2.St} (R0 : Rl c own Z ρ φ σ H) {i : Nat} {ds : List (Key × D)} (ho : own[i]? = some .o) (hd : ρ[i]? = some (some (.dk ds))) : ∃ a vs, σ[i]? = some (some (.ref a)) ∧ H a = some (.dK vs) ∧ KReps c.K c.f Z vs ds ∧ Z a = none := by
  obtain ⟨u, hu, ru⟩ := R0.ow i _ hd ho
  unfold Res at ru
  rw [if_pos (by rfl)] at ru
  obtain ⟨a, o, rfl, _, hz, _, ha, rc⟩ := ru
  cases rc with
  | dk q => exact ⟨a, _, hu, ha, q, hz⟩
def sPutK (i : Nat) (A B : SX) : SS := fun ρ φ => (A ρ φ).toR ρ fun d φ1 => match ρ[i]? with
  | some (some (.dk l)) => (B ρ φ1).toR ρ fun k φ2 => (match keyD k with
    | some key => if l.length < sizeLine then .nx (ρ.set i (some (.dk (putD l key d)))) φ2 else .bad
    | _ => .bad)
  | _ => .bad
theorem s_putK (i : Nat) {x : Str} {e k : Expr} {A B : SX} {p p2 : Pos} (hu : X.A.units + 64 < cLine) (ha : EX X c own .s w.W e A) (hk : EX X c own .p w.W k B) (hw : own[i]? = some .o := by rfl) (hN : X.N[i]? = some x := by rfl) (hv : Vis X.env.scope x := by first | exact Or.inl rfl | exact Or.inr (Or.inl rfl) | exact Or.inr (Or.inr rfl))
    (hd : (x == ("__debug__" : Str)) = false := by decide) (hcd : (x == ("__classdict__" : Str)) = false := by decide)
    (hst : ∀ v, assign (.Subscript (.Name x p) k p2) X.env v = (do
      let ov ← holding [v] (eval (.Name x p) X.env)
      let iv ← holding [v, ov] (eval k X.env)
      standAt p2
      holding [v, ov, iv] (setItem ov iv v)
      release [v, ov, iv] []) := by intro _; rfl)
    (hs : swapsWithSole [.Subscript (.Name x p) k p2] e pos.line X.env = pure false := by rfl) (hsw : swappedStores [.Subscript (.Name x p) k p2] e X.env = pure none := by rfl)
    (h1 : (assignEach [.Subscript (.Name x p) k p2] X.env).map (·.2) = [assign (.Subscript (.Name x p) k p2) X.env] := by rfl) (ho : w.ox own := by first | exact trivial | rfl) :
    SJ X c w own own (.Assign [.Subscript (.Name x p) k p2] e pos) (sPutK i A B) := by
  refine PS.weak (ps_asg ha (pg_sub (pe_var hN hv hd hcd) hk (set_dict (by omega)) hst) hs hsw h1) ?_
  rintro Dn σ H ⟨Z, ρ, φ, R0, h⟩
  refine ⟨Z, ρ, φ, R0, Post.toS (w := w) ho R0 h fun d φ1 v Z1 H1 e1 w1 r1 h1 => ?_⟩
  split at h1
  · rename_i l hdd
    have R1 := R0.more e1 w1
    obtain ⟨a, vs, hav, hH, rs, hz⟩ := R1.cellK hw hdd
    refine ⟨.ref a, hav, Z1, ρ, φ1, R1, Post.toS (w := w) ho R1 h1 fun kd φ2 kv Z2 H2 e2 w2 r2 h2 => ?_⟩
    have R2 := R1.more e2 w2
    obtain ⟨b, us, hb, hH2, rs2, hz2⟩ := R2.cellK hw hdd
    rw [hav] at hb
    cases hb
    cases hk : keyD kd with
    | none => simp only [hk] at h2; exact h2.elim
    | some key =>
      simp only [hk] at h2
      by_cases hl : l.length < sizeLine
      · rw [if_pos hl] at h2
        have hy : kv = kV key := keyD_rep r2 hk
        refine ⟨a, _, rfl, by rw [hy]; exact DPut.k hH2 (by rw [rs2.length]; exact hl), ?_⟩
        exact h2 σ Z2 _ Sub.refl (R2.write hw hdd rfl hav (.dk (rs2.put (Rep.mono e2.z r1))))
      · rw [if_neg hl] at h2; exact h2.elim
  · exact h1.elim
/-- k in d: b true for «not in» -/
def eDIn (neg : Bool) (A B : SX) : SX := fun ρ φ => (A ρ φ).bind fun kd φ1 => (B ρ φ1).bind fun d φ2 => match d with
  | .dk l => (match keyD kd with
    | some key => .ok (.bl (if neg = true then !(valD l key).isSome else (valD l key).isSome)) φ2
    | none => .bad)
  | _ => .bad
theorem din_core {neg : Bool} {σ : L2.St} {H : Hp} {Q : VK} (h : tE c own m W (eDIn neg A B) σ H Q) :
    tE c own .p W A σ H fun y H1 => tE c own .p W B σ H1 fun x H2 => ∃ a o, x = V.ref a ∧ DGet H2 a y o ∧ Q (.bl (if neg = true then !o.isSome else o.isSome)) H2 := by
  obtain ⟨Z, ρ, φ, R, h⟩ := h
  refine ⟨Z, ρ, φ, R, Post.bindE h fun kd φ1 y Z1 H1 e1 w1 r1 h1 => ?_⟩
  refine ⟨Z1, ρ, φ1, R.more e1 w1, Post.bindE h1 fun d φ2 x Z2 H2 e2 w2 r2 h2 => ?_⟩
  cases d with
  | dk l =>
    obtain ⟨a, kvs, rfl, ha, rk⟩ := (show Res .p c.K c.f H2 Z2 H2 x (.dk l) from r2).dk w2
    cases hk : keyD kd with
    | none => simp only [hk] at h2; exact h2.elim
    | some key =>
      simp only [hk] at h2
      have hy : y = kV key := keyD_rep (r1.pmono e2) hk
      refine ⟨a, valV kvs key, rfl, by rw [hy]; exact DGet.k ha, ?_⟩
      have : (valV kvs key).isSome = (valD l key).isSome := by
        cases e : valD l key with
        | none => rw [rk.miss e]; rfl
        | some z =>
          obtain ⟨u, e4, _⟩ := rk.hit e
          rw [e4]; rfl
      rw [this]
      exact h2.nowB w2
  | _ => exact h2.elim
theorem x_din (hu : X.A.units + 64 < cLine) (hk : EX X c own .p W k A) (ho : EX X c own .p W o B) (hm : behindInMarks .In o = false := by rfl) : EX X c own .o W (.Compare k [.In] [o] pos) (eDIn false A B) :=
  PE.weak (pe_cmp (pc_din (by omega) hk ho) hm) fun σ H Q h => din_core h
theorem x_dnotin (hu : X.A.units + 64 < cLine) (hk : EX X c own .p W k A) (ho : EX X c own .p W o B) (hm : behindInMarks .NotIn o = false := by rfl) : EX X c own .o W (.Compare k [.NotIn] [o] pos) (eDIn true A B) :=
  PE.weak (pe_cmp (pc_dnotin (by omega) hk ho) hm) fun σ H Q h => din_core h
theorem b_dcore {neg : Bool} {σ : L2.St} {H : Hp} {Q : Bool → Hp → Prop} (h : tB c own W (bVal (eDIn neg A B)) σ H Q) : tE c own .o W (eDIn neg A B) σ H fun v H' => ∃ b, v = .bl b ∧ Q b H' := by
  obtain ⟨Z, ρ, φ, R, h⟩ := h
  refine ⟨Z, ρ, φ, R, Post.bindB h fun d φ1 v Z1 H1 e1 w1 r1 h1 => ?_⟩
  cases d with
  | bl b => exact ⟨b, r1.bl, h1 Z1 H1 .refl w1⟩
  | _ => exact h1.elim
theorem b_din (hu : X.A.units + 64 < cLine) (hk : EX X c own .p W k A) (ho : EX X c own .p W o B) (hm : behindInMarks .In o = false := by rfl) : BX X c own W (.Compare k [.In] [o] pos) (bVal (eDIn false A B)) :=
  PT.weak (pt_cmp (pc_din (by omega) hk ho) hm) fun σ H Q h => din_core (b_dcore h)
theorem b_dnotin (hu : X.A.units + 64 < cLine) (hk : EX X c own .p W k A) (ho : EX X c own .p W o B) (hm : behindInMarks .NotIn o = false := by rfl) : BX X c own W (.Compare k [.NotIn] [o] pos) (bVal (eDIn true A B)) :=
  PT.weak (pt_cmp (pc_dnotin (by omega) hk ho) hm) fun σ H Q h => din_core (b_dcore h)
end

end Pf

set_option Elab.async false
set_option linter.all false
set_option maxRecDepth 100000
set_option maxHeartbeats 4000000
namespace PySem.W
open PySem PySem.Calls PyProof.Rows PyProof.V PySem.Spec
section
variable {prog : Program} {w : World} {A : Around} {E : Value → Shared → Prop} {s : Shared} {Q : Value → Shared → Prop} {T : String} {r d : Addr} {n : Nat} {P : Nat → Value → Prop} {OK : Heap → Prop}
theorem sorted_src (K : KdlSrc prog w T r d n P OK) (hh : A.handled = none) (hok : OK s.heap) (hn : n ≤ sizeLine)
    (h : ∀ (h' : Heap) (tk : Nat) (its : List Value), (∀ b o, s.heap.get? b = some o → h'.get? b = some o) → its.length = n → (∀ j v, its[j]? = some v → P j v) →
      ∃ κ, SortsAt prog w A.in1.in1 { s with heap := sortingHeap (h'.push (seqObj "list" its.toArray 0)) h'.objs.size its, toks := tk } κ its ∧
        Q (.ref h'.objs.size) { s with heap := sortedHeap (h'.push (seqObj "list" its.toArray 0)) h'.objs.size its (sortVals κ false its its).toArray, toks := tk }) :
    wpAny (model prog w) A (call (.builtin "sorted") [.ref r]) Q E s := by
  refine call_function_entry kind_sorted plain_sorted entry_sorted (args_sorted1 _) ?_
  unfold Builtin.«sorted»
  refine wpAny_bind (m := checkCount "sorted" 1 1 _) (wpAny_pure ?_)
  refine wpAny_bind (kdu_collect (A := A.in1) K hh hok hn fun h' tk acc hk hacc => ?_)
  have hl : acc.toList.length = n := by rw [Array.length_toList]; exact hacc.1
  refine wpAny_bind (wpAny_newList ?_ (by rw [hl]; exact hn))
  obtain ⟨κ, S, q⟩ := h h' tk acc.toList hk hl (fun j v e => hacc.2 j v (by rw [← Array.getElem?_toList]; exact e))
  have ho : (h'.push (seqObj "list" acc.toList.toArray 0)).get? h'.objs.size = some (seqObj "list" acc.toList.toArray 0) := Heap.get?_push_size _ rfl
  show wpAny _ _ _ _ _ { s with heap := h'.push (seqObj "list" acc.toList.toArray 0), toks := tk }
  refine wpAny_bind (wpAny_holding (wpAny_call_entry slot_list_sort ⟨_, ho, rfl⟩ entry_list_sort ?body (args_list_sort _)))
  case body =>
    exact list_sort_vals (s := { s with heap := h'.push (seqObj "list" acc.toList.toArray 0), toks := tk }) ho S (by rw [hl]; exact hn) ⟨_, rfl, wpAny_pure ⟨_, rfl, q⟩⟩
end
end PySem.W
namespace Pf
open PySem PySem.Spec PyProof.Rows L2
/-! ## sorted(d.values()), keys that are tuples -/
def rSortV (K : PySem.W.Frag) : V → Hp → VK → Prop := fun x H Q => ∃ (a : Addr) (kvs : List (List Key × V)) (ps : List (V × PyData)), x = V.ref a ∧ H a = some (.dT kvs) ∧ kvs.map (·.2) = ps.map Prod.fst ∧ (∀ p ∈ ps, Dp K H p.1 p.2) ∧
  (∀ p ∈ ps, ∀ q ∈ ps, PySem.W.alike p.2 q.2 = true) ∧ (∀ p ∈ ps, SeqAt.shaped p.2 = true) ∧ PySem.W.Sortable (ps.map Prod.snd) ∧ ∀ (p : Addr), H p = none → Q (.ref p) (upd H p (.lst ((ps.mergeSort leP).map Prod.fst)))
section
variable {X : Cx} {o : Expr} {p pos apos mpos : Pos} {td : TE}
theorem pair_vals {H : Hp} {kvs : List (List Key × V)} {xs : List (List Key × Addr × Value)} (r : KT H kvs xs) : Vals (kvs.map (·.2)) (xs.map (·.2.2)) := by
  unfold KT at r
  induction r with
  | nil => exact .nil
  | cons h t ih => exact .cons h.2.2 ih
theorem pe_sortVals (hc : X.calm = true) (hu : X.A.units + 66 < cLine) (hg : Gl X "sorted") (hm : X.mg "sorted" = none) (hd : PE X o td) (hbase : attributeBase o "values" X.env (eval o X.env) = eval o X.env := by rfl) (hline : (apos.endLine == mpos.line) = true := by rfl)
    (hse : starEach [Expr.Call (.Attribute o "values" apos) [] [] mpos] X.env = [(false, eval (Expr.Call (.Attribute o "values" apos) [] [] mpos) X.env)] := by rfl) :
    PE X (.Call (.Name "sorted" p) [.Call (.Attribute o "values" apos) [] [] mpos] [] pos) (fun σ H Q => td σ H fun x H1 => rSortV X.K x H1 Q) := by
  refine ⟨fun pins s σ H Q I h => ?_⟩
  refine wpAny_Call_Name_kw (ld_blt I hg hm (u := .builtin "sorted") (by first | rfl | decide +kernel) ?_ (by first | decide +kernel | decide) (by first | decide +kernel | decide))
  rw [hse]
  refine PySem.callWith_builtin1 (wpAny_Call_method0_late hbase hline (thn (hd.run pins s σ H _ I h) fun v s1 ⟨x, H1, I1, r1, a, kvs, ps, ex, ha, hv, hdp, hal, hsh, hst, q⟩ => ?_))
  subst ex
  obtain rfl : v = Value.ref a := r1
  obtain ⟨z, hsys, xs', rel, o', es, ep, ho, hx, hdat, hes, his, hn⟩ := dt_of I1.hok ha
  refine ⟨"dict", "dict.values", F.plainAttrs_dict, F.slot_dict_values, F.type_dict_values, ⟨o', ho, hx.1⟩, fun b e => ?_, Calls.callWith_builtin rfl (PySem.evalArgs_none ?_)⟩
  · cases e
    exact ⟨o', ho, hx.2.1⟩
  have hraw : s1.heap.DictRaw a es ep := ⟨o', ho, hx, hdat⟩
  refine call_meetsIn F.slot_dict_values ⟨o', ho, hx.1⟩ F.entry_dict_values (F.args_dict_values_1 _) (meets_dict_values_raw a hsys) ⟨⟨es, ep, hraw⟩, ?_⟩
  have k1 : ∀ b u, s1.heap.get? b = some u → (s1.heap.push { cls := .type "dict_values", data := .fields #[.ref a] }).get? b = some u := fun b u e => Heap.get?_push_of_some _ e
  have l2 : es.size = xs'.length := size_of_entries hes
  have l1 : kvs.length = xs'.length := Paired.length rel
  refine PySem.W.sorted_src (KdlSrc.rawValues (r := s1.heap.objs.size) (d := a) (es := es) (ep := ep)) (I.ok.hd hc) ⟨⟨_, Heap.get?_push_size _ rfl, rfl, rfl⟩, hraw.at fun o e => k1 _ _ e⟩ (by omega) fun h' tk its hk hl hvv => ?_
  have hits : its = xs'.map (·.2.2) := by
    refine List.ext_getElem? fun j => ?_
    cases hj : its[j]? with
    | none =>
      rw [List.getElem?_eq_none_iff] at hj
      rw [List.getElem?_map, List.getElem?_eq_none (by omega)]
      rfl
    | some v =>
      obtain ⟨hi, rfl⟩ := hvv j v hj
      have e1 := entry_at hes j
      rw [Array.getElem?_eq_getElem hi] at e1
      obtain ⟨y, e2, e3⟩ := Option.map_eq_some_iff.mp e1.symm
      rw [List.getElem?_map, e2, ← e3]
      rfl
  have rv : Vals (ps.map Prod.fst) its := by
    rw [← hv, hits]
    exact pair_vals rel
  have e0 : PySem.W.EachIs (fun v (b : V × PyData) => RelV b.1 v) its ps := vals_each rv
  have old : ∀ b o, s1.heap.get? b = some o → b ≠ h'.objs.size ∧ (h'.push (seqObj "list" its.toArray 0)).get? b = some o := fun b o e => by
    have e2 := hk b o (k1 b o e)
    exact ⟨Nat.ne_of_lt (Heap.lt_size e2), Heap.get?_push_of_some _ e2⟩
  have keep : ∀ b o, s1.heap.get? b = some o → (PySem.W.sortingHeap (h'.push (seqObj "list" its.toArray 0)) h'.objs.size its).get? b = some o := fun b o e => PySem.W.sortingHeap_old (old b o e).1 (old b o e).2
  have e1 : PySem.W.EachIs (fun v (b : V × PyData) => RelV b.1 v ∧ ∃ as, Reads (PySem.W.sortingHeap (h'.push (seqObj "list" its.toArray 0)) h'.objs.size its) v b.2 as) its ps :=
    each_mono e0 fun v b hb rb => by
      obtain ⟨as, ra⟩ := Dp.reads I1 b.2 b.1 v (hdp b hb) rb
      exact ⟨rb, as, PyProof.Rows.Reads.keeps keep ra⟩
  have e2 := each_map (R := fun v d => ∃ as, Reads (PySem.W.sortingHeap (h'.push (seqObj "list" its.toArray 0)) h'.objs.size its) v d as) Prod.snd (each_mono e1 fun _ _ _ q => q.2)
  have hAll : PySem.W.AllAlike (ps.map Prod.snd) := fun d h1 d' h2 => by
    obtain ⟨p, hp, rfl⟩ := List.mem_map.mp h1
    obtain ⟨p', hp', rfl⟩ := List.mem_map.mp h2
    exact hal p hp p' hp'
  have S := PySem.W.SortsAt.data (prog := X.prog) (w := X.w) (A := X.A.in1.in1) (s := { s1 with heap := PySem.W.sortingHeap (h'.push (seqObj "list" its.toArray 0)) h'.objs.size its, toks := tk }) e2 hAll hst fun d h1 => by
    obtain ⟨p, hp, rfl⟩ := List.mem_map.mp h1
    have := SeqAt.depth_of_shaped (hsh p hp)
    show X.A.units + 1 + 1 + _ < cLine
    omega
  refine ⟨_, S, ?_⟩
  have ho2 : (h'.push (seqObj "list" its.toArray 0)).get? h'.objs.size = some (seqObj "list" its.toArray 0) := Heap.get?_push_size _ rfl
  obtain ⟨en, he'⟩ := sortedHeap_at (out := (PySem.W.sortVals (PySem.W.dataKind (PySem.W.sortingHeap (h'.push (seqObj "list" its.toArray 0)) h'.objs.size its) (ps.map Prod.snd)) false its its).toArray) ho2
  have kk : PySem.W.EachIs (fun v (b : V × PyData) => (PySem.W.dataKind (PySem.W.sortingHeap (h'.push (seqObj "list" its.toArray 0)) h'.objs.size its) (ps.map Prod.snd)).keyOf v = some (PySem.W.keyToks b.2)) its ps :=
    each_mono e1 fun v b hb ⟨_, as, ra⟩ => PySem.W.dataKind_some hAll (List.mem_map.mpr ⟨b, hb, rfl⟩) ra
  have out := PySem.W.sortVals_each (κ := PySem.W.dataKind (PySem.W.sortingHeap (h'.push (seqObj "list" its.toArray 0)) h'.objs.size its) (ps.map Prod.snd)) (rev := false) (fun b : V × PyData => PySem.W.keyToks b.2) e0 kk
  have hle : PySem.W.sortLe (listOrd itemOrd) false (fun b : V × PyData => PySem.W.keyToks b.2) = leP := rfl
  have out' : Vals ((ps.mergeSort leP).map Prod.fst) (PySem.W.sortVals (PySem.W.dataKind (PySem.W.sortingHeap (h'.push (seqObj "list" its.toArray 0)) h'.objs.size its) (ps.map Prod.snd)) false its its) := each_vals out
  have hlen : ((ps.mergeSort leP).map Prod.fst).length ≤ sizeLine := by
    rw [List.length_map, (List.mergeSort_perm _ _).length_eq]
    have := rv.length
    rw [List.length_map] at this
    omega
  have hle2 : s1.heap.objs.size ≤ h'.objs.size := by
    exact Nat.le_of_lt (Heap.lt_size (hk _ _ (show (s1.heap.push { cls := .type "dict_values", data := .fields #[.ref a] }).get? s1.heap.objs.size = some { cls := .type "dict_values", data := .fields #[.ref a] } from Heap.get?_push_size _ rfl)))
  exact ⟨.ref _, upd H1 h'.objs.size (.lst ((ps.mergeSort leP).map Prod.fst)), I1.laid (t' := tk) (fun b o e => sortedHeap_old (old b o e).1 (Heap.lt_size (old b o e).2) |>.trans (old b o e).2) hle2 ⟨hlen, _, en, out', he'⟩, rfl, q _ (I1.hok.fresh hle2)⟩
end
end Pf
namespace Pf
open PySem PySem.Spec PyProof.Rows L2
/-! ## dicts whose keys are tuples -/
def valT (l : List (List Key × D)) (k : List Key) : Option D := (l.find? fun kv => decide (kv.1 = k)).map (·.2)
def putT (l : List (List Key × D)) (k : List Key) (v : D) : List (List Key × D) :=
  if (l.any fun kv => decide (kv.1 = k)) = true then l.map (fun kv => if kv.1 = k then (kv.1, v) else kv) else l ++ [(k, v)]
section
variable {K : PySem.W.Frag} {f : Addr} {Z : Hp}
theorem TReps.length : ∀ {v : List (List Key × V)} {d : List (List Key × D)}, TReps K f Z v d → v.length = d.length
  | _, _, .nil => rfl
  | _, _, .cons _ s => by simp [s.length]
theorem TReps.app : ∀ {v v' : List (List Key × V)} {d d' : List (List Key × D)}, TReps K f Z v d → TReps K f Z v' d' → TReps K f Z (v ++ v') (d ++ d')
  | _, _, _, _, .nil, s => s
  | _, _, _, _, .cons r t, s => .cons r (t.app s)
theorem TReps.hit : ∀ {v : List (List Key × V)} {d : List (List Key × D)} {k : List Key} {z : D}, TReps K f Z v d → valT d k = some z → ∃ y, valV v k = some y ∧ Rep K f Z y z
  | _, _, k, z, .nil, e => by cases e
  | _, _, k, z, .cons (k := k0) (v := y0) (d := d0) (r := r) (s := s) q t, e => by
    by_cases h : k0 = k
    · have e1 : valT ((k0, d0) :: s) k = some d0 := by simp [valT, h]
      rw [e1] at e
      cases e
      exact ⟨y0, valV_pos (p := (k0, y0)) h, q⟩
    · have e1 : valT ((k0, d0) :: s) k = valT s k := by simp [valT, h]
      rw [e1] at e
      obtain ⟨y, h1, h2⟩ := TReps.hit (k := k) (z := z) t e
      exact ⟨y, by rw [valV_neg (p := (k0, y0)) h]; exact h1, h2⟩
theorem TReps.miss : ∀ {v : List (List Key × V)} {d : List (List Key × D)} {k : List Key}, TReps K f Z v d → valT d k = none → valV v k = none
  | _, _, k, .nil, e => rfl
  | _, _, k, .cons (k := k0) (v := y0) (d := d0) (r := r) (s := s) q t, e => by
    by_cases h : k0 = k
    · have e1 : valT ((k0, d0) :: s) k = some d0 := by simp [valT, h]
      rw [e1] at e
      cases e
    · have e1 : valT ((k0, d0) :: s) k = valT s k := by simp [valT, h]
      rw [e1] at e
      rw [valV_neg (p := (k0, y0)) h]
      exact TReps.miss t e
theorem TReps.any : ∀ {v : List (List Key × V)} {d : List (List Key × D)} (k : List Key), TReps K f Z v d → (v.any fun kv => decide (kv.1 = k)) = d.any fun kv => decide (kv.1 = k)
  | _, _, _, .nil => rfl
  | _, _, k, .cons (r := r) (s := s) q t => by rw [List.any_cons, List.any_cons, TReps.any k t]
theorem TReps.over {y : V} {x : D} {k : List Key} (h : Rep K f Z y x) : ∀ {v : List (List Key × V)} {d : List (List Key × D)}, TReps K f Z v d → TReps K f Z (v.map fun kv => if kv.1 = k then (kv.1, y) else kv) (d.map fun kv => if kv.1 = k then (kv.1, x) else kv)
  | _, _, .nil => .nil
  | _, _, .cons (k := k0) (v := y0) (d := d0) q t => by
    rw [List.map_cons, List.map_cons]
    by_cases e : k0 = k
    · rw [if_pos e, if_pos e]; exact .cons h (TReps.over h t)
    · rw [if_neg e, if_neg e]; exact .cons q (TReps.over h t)
theorem TReps.put {v : List (List Key × V)} {d : List (List Key × D)} {k : List Key} {y : V} {x : D} (r : TReps K f Z v d) (h : Rep K f Z y x) : TReps K f Z (putK v k y) (putT d k x) := by
  unfold putK putT
  rw [r.any k]
  split
  · exact r.over h
  · exact r.app (.cons h .nil)
theorem TReps.vals : ∀ {v : List (List Key × V)} {d : List (List Key × D)}, TReps K f Z v d → Reps K f Z (v.map (·.2)) (d.map (·.2))
  | _, _, .nil => .nil
  | _, _, .cons r s => .cons r s.vals
end
def eDctT0 : SX := fun _ φ => .ok (.dt []) φ
noncomputable def eSortV (A : SX) : SX := fun ρ φ => (A ρ φ).bind fun d φ1 => match d with
  | .dt l => ofO (gSorted [.lst (l.map (·.2))]) φ1
  | _ => .bad
def keyL (ns : List Int) : List Key := ns.map Sum.inl
theorem keyL_kV (ns : List Int) : (keyL ns).map kV = ns.map V.int := by
  unfold keyL
  rw [List.map_map]
  rfl
theorem sorted_coreV {c : Ct} {Z H : Hp} {φ : Fd} {vs : List V} {ds : List D} {Q : VK} {W : WX} {σ : L2.St} (w : Wf c.K c.f Z H φ) (rs : Reps c.K c.f Z vs ds) (ok : okSort ds) (h : Post c .o W (.ok (.lst (sortD ds)) φ) σ Z H Q) : ∃ (ps : List (V × PyData)), vs = ps.map Prod.fst ∧ (∀ p ∈ ps, Dp c.K H p.1 p.2) ∧ (∀ p ∈ ps, ∀ q ∈ ps, PySem.W.alike p.2 q.2 = true) ∧ (∀ p ∈ ps, SeqAt.shaped p.2 = true) ∧
  PySem.W.Sortable (ps.map Prod.snd) ∧ ∀ (p : Addr), H p = none → Q (.ref p) (upd H p (.lst ((ps.mergeSort leP).map Prod.fst))) := by
  obtain ⟨h1, h2, h3⟩ := reps_zip rs
  obtain ⟨o1, o2, o3⟩ := ok
  have mem : ∀ p ∈ vs.zip ds, p.2 ∈ ds := fun p hp => by rw [← h2]; exact List.mem_map.mpr ⟨p, hp, rfl⟩
  refine ⟨(vs.zip ds).map fun p => (p.1, p.2.py), ?_, ?_, ?_, ?_, ?_, ?_⟩
  · rw [List.map_map]
    exact h1.symm
  · intro p hp
    obtain ⟨q, hq, rfl⟩ := List.mem_map.mp hp
    exact Dp.mono w.sub (Rep.dp (h3 q hq) (SeqAt.canLay_of_shaped (o2 _ (mem q hq))))
  · intro p hp p' hp'
    obtain ⟨q, hq, rfl⟩ := List.mem_map.mp hp
    obtain ⟨q', hq', rfl⟩ := List.mem_map.mp hp'
    exact o1 _ (mem q hq) _ (mem q' hq')
  · intro p hp
    obtain ⟨q, hq, rfl⟩ := List.mem_map.mp hp
    exact o2 _ (mem q hq)
  · rcases o3 with o3 | o3
    · refine .inl fun d hd => ?_
      obtain ⟨p, hp, rfl⟩ := List.mem_map.mp hd
      obtain ⟨q, hq, rfl⟩ := List.mem_map.mp hp
      obtain ⟨x, r, e⟩ := o3 _ (mem q hq)
      refine ⟨x.py, D.pys r, ?_⟩
      show q.2.py = _
      rw [e]
      rfl
    · refine .inr fun d hd => ?_
      obtain ⟨p, hp, rfl⟩ := List.mem_map.mp hd
      obtain ⟨q, hq, rfl⟩ := List.mem_map.mp hp
      obtain ⟨n1, n2⟩ := o3 _ (mem q hq)
      refine ⟨fun e => n1 ?_, fun xs e => ?_⟩
      · cases hh : q.2 <;> rw [hh] at e <;> first | rfl | (cases e; done)
      · cases hh : q.2 <;> rw [hh] at e <;> first | exact n2 _ hh | (cases e; done)
  · have e : ((vs.zip ds).map fun p => (p.1, p.2.py)).mergeSort leP = ((vs.zip ds).mergeSort fun p q => leD p.2 q.2).map fun p => (p.1, p.2.py) :=
      (List.map_mergeSort (f := fun p : V × D => (p.1, p.2.py)) (r := fun p q => leD p.2 q.2) (s := leP) fun a _ b _ => rfl).symm
    rw [e, List.map_map]
    have e2 : ((vs.zip ds).mergeSort fun p q => leD p.2 q.2).map Prod.snd = sortD ds := by
      have := List.map_mergeSort (f := Prod.snd) (r := fun p q : V × D => leD p.2 q.2) (s := leD) (l := vs.zip ds) fun a _ b _ => rfl
      rw [this, h2]
      rfl
    have rs' : Reps c.K c.f Z (((vs.zip ds).mergeSort fun p q => leD p.2 q.2).map Prod.fst) (sortD ds) := by
      rw [← e2]
      exact reps_of_zip fun p hp => h3 p ((List.mergeSort_perm _ _).mem_iff.mp hp)
    exact h.newO w (.lst rs')
section
variable {X : Cx} {c : Ct} {own on o1 : List Ms} {m : Md} {W : WX} {w : Ow} {pos p apos mpos : Pos} {a : Expr} {A : SX}
theorem x_dctT0 : EX X c own .o W (.Dict [] [] pos) eDctT0 := by
  refine PE.weak pe_dnewT ?_
  rintro σ H Q ⟨Z, ρ, φ, R, h⟩
  exact Post.newO R.wf (.dt .nil) h
theorem x_sortV (hK : X.K = c.K) (hc : X.calm = true) (hu : X.A.units + 66 < cLine) (hm : X.mg "sorted" = none) (ha : EX X c own .p W a A) (hg : Gl X "sorted" := by rfl) (hbase : attributeBase a "values" X.env (eval a X.env) = eval a X.env := by rfl) (hline : (apos.endLine == mpos.line) = true := by rfl)
    (hse : starEach [Expr.Call (.Attribute a "values" apos) [] [] mpos] X.env = [(false, eval (Expr.Call (.Attribute a "values" apos) [] [] mpos) X.env)] := by rfl) :
    EX X c own .o W (.Call (.Name "sorted" p) [.Call (.Attribute a "values" apos) [] [] mpos] [] pos) (eSortV A) := by
  refine PE.weak (pe_sortVals hc hu hg hm ha hbase hline hse) ?_
  rintro σ H Q ⟨Z, ρ, φ, R, h⟩
  refine ⟨Z, ρ, φ, R, Post.bindE h fun d φ1 x Z1 H1 e1 w1 r1 h1 => ?_⟩
  cases d with
  | dt l =>
    obtain ⟨b, kvs, rfl, hb, rk⟩ := (show Res .p c.K c.f H1 Z1 H1 x (.dt l) from r1).dt w1
    obtain ⟨z, hz, h3⟩ := ofO_ok (E := fun o => Post c .o W o σ Z1 H1 Q) h1 fun z => z
    have hg' : (if okSort (l.map (·.2)) then some (D.lst (sortD (l.map (·.2)))) else none) = some z := hz
    obtain ⟨ok, rfl⟩ := ifs hg'
    rw [hK]
    obtain ⟨ps, q⟩ := sorted_coreV w1 rk.vals ok h3
    exact ⟨b, kvs, ps, rfl, hb, q⟩
  | _ => exact h1.elim
end
end Pf

set_option Elab.async false
set_option linter.all false
set_option maxRecDepth 100000
set_option maxHeartbeats 4000000
namespace Pf
open PySem PySem.Spec PyProof.Rows L2

/-! ## k = tuple(e); d[k] = d.get(k, []) + [x] -/
section
variable {c : Ct}
theorem new_cell {o : HO} {d : D} {φ : Fd} {Z H : Hp} (w : Wf c.K c.f Z H φ) (rc : RepC c.K c.f Z o d) {p : Addr} (hp : H p = none) : Ext c.f Z H Z (upd H p o) ∧ Wf c.K c.f Z (upd H p o) φ ∧ Res .o c.K c.f H Z (upd H p o) (.ref p) d := by
  have hz : Z p = none := by
    cases e : Z p with
    | none => rfl
    | some u => rw [w.sub p u e] at hp; cases hp
  have hf : p ≠ c.f := fun e => w.hf (e ▸ hp)
  have up : ∀ b u, H b = some u → upd H p o b = some u := fun b u q => by rw [upd_ne (ne_of_none q hp)]; exact q
  have e : Ext c.f Z H Z (upd H p o) := ⟨fun _ _ q => q, fun b u _ q => up b u q, fun b hb => by
    cases e : H b with
    | none => exact absurd e hb
    | some u => rw [up b u e]; simp, fun _ _ q => q, .same (upd_ne (Ne.symm hf))⟩
  refine ⟨e, ⟨fun b u q => up b u (w.sub b u q), w.zf, ?_, w.ok, w.tt.upd rc.nt⟩, ?_⟩
  · obtain ⟨s, h1, h2⟩ := w.feed
    exact ⟨s, h1, up _ _ h2⟩
  · have hm : d.mt = true := by cases rc <;> rfl
    unfold Res
    rw [if_pos hm]
    exact ⟨p, o, rfl, hp, hz, hf, upd_same, rc⟩
theorem new_tup {vs : List V} {ds : List D} {φ : Fd} {Z H : Hp} (w : Wf c.K c.f Z H φ) (rc : Reps c.K c.f Z vs ds) {p : Addr} (hp : H p = none) : Ext c.f Z H (upd Z p (.tup vs)) (upd H p (.tup vs)) ∧ Wf c.K c.f (upd Z p (.tup vs)) (upd H p (.tup vs)) φ ∧ Rep c.K c.f (upd Z p (.tup vs)) (.ref p) (.tup ds) := by
  have hz : Z p = none := by
    cases e : Z p with
    | none => rfl
    | some u => rw [w.sub p u e] at hp; cases hp
  have hf : p ≠ c.f := fun e => w.hf (e ▸ hp)
  have up : ∀ b u, H b = some u → upd H p (.tup vs) b = some u := fun b u q => by rw [upd_ne (ne_of_none q hp)]; exact q
  have upz : ∀ b u, Z b = some u → upd Z p (.tup vs) b = some u := fun b u q => by rw [upd_ne (ne_of_none q hz)]; exact q
  have e : Ext c.f Z H (upd Z p (.tup vs)) (upd H p (.tup vs)) := ⟨upz, fun b u _ q => up b u q, fun b hb => by
    cases e : H b with
    | none => exact absurd e hb
    | some u => rw [up b u e]; simp, fun b hb q => by rw [upd_ne (fun z => hb (by rw [z]; exact hp))]; exact q, .same (upd_ne (Ne.symm hf))⟩
  refine ⟨e, ⟨fun b u q => ?_, ?_, ?_, w.ok, w.tt.updT⟩, .tup upd_same (rc.mono upz)⟩
  · by_cases hb : b = p
    · subst hb; rw [upd_same] at q; cases q; exact upd_same
    · rw [upd_ne hb] at q; exact up b u (w.sub b u q)
  · rw [upd_ne (Ne.symm hf)]; exact w.zf
  · obtain ⟨s, h1, h2⟩ := w.feed
    exact ⟨s, h1.mono upz, up _ _ h2⟩
theorem Rl.cellT {own : List Ms} {Z H : Hp} {ρ : En} {φ : Fd} {σ : L2.St} (R0 : Rl c own Z ρ φ σ H) {i : Nat} {ds : List (List Key × D)} (ho : own[i]? = some .o) (hd : ρ[i]? = some (some (.dt ds))) : ∃ a vs, σ[i]? = some (some (.ref a)) ∧ H a = some (.dT vs) ∧ TReps c.K c.f Z vs ds ∧ Z a = none ∧ a ≠ c.f := by
  obtain ⟨u, hu, ru⟩ := R0.ow i _ hd ho
  unfold Res at ru
  rw [if_pos (by rfl)] at ru
  obtain ⟨a, o, rfl, _, hz, hf, ha, rc⟩ := ru
  cases rc with
  | dt q => exact ⟨a, _, hu, ha, q, hz, hf⟩
end
def sTally (i j : Nat) (A B : SX) : SS := fun ρ φ => (A ρ φ).toR ρ fun l φ1 => match l with
  | .lst ks => (match intsOf ks with
    | some ns => (match ρ[i]? with
      | some (some (.dt d)) => if ρ.length ≤ j then .bad else (B (ρ.set j (some (.tup ks))) φ1).toR (ρ.set j (some (.tup ks))) fun r φ2 => (match (valT d (keyL ns)).getD (.lst []) with
        | .lst os => if os.length < sizeLine ∧ d.length < sizeLine then .nx ((ρ.set j (some (.tup ks))).set i (some (.dt (putT d (keyL ns) (.lst (os ++ [r])))))) φ2 else .bad
        | _ => .bad)
      | _ => .bad)
    | none => .bad)
  | _ => .bad
section
variable {X : Cx} {c : Ct} {w : Ow} {own on : List Ms}
theorem s_tally (i j : Nat) {x y : Str} {e eb : Expr} {A B : SX} {Bk : SS} {rest : List Stmt} {py p cp pos p1 p2 p3 p4 p5 p6 p7 p8 apos cpos pos2 : Pos} (hK : X.K = c.K) (hu : X.A.units + 64 < cLine) (hNd : X.N.Nodup) (hmt : X.mg "tuple" = none)
    (ha : EX X c own .p w.W e A) (hb : EX X c (own.set j .s) .s w.W eb B) (hr : SJs X c w (own.set j .s) on rest Bk) (hij : j ≠ i := by decide) (hw : own[i]? = some .o := by rfl)
    (hN : X.N[i]? = some x := by rfl) (hv : Vis X.env.scope x := by first | exact Or.inl rfl | exact Or.inr (Or.inl rfl) | exact Or.inr (Or.inr rfl))
    (hd : (x == ("__debug__" : Str)) = false := by decide) (hcd : (x == ("__classdict__" : Str)) = false := by decide)
    (hN' : X.N[j]? = some y := by rfl) (hv' : Vis X.env.scope y := by first | exact Or.inl rfl | exact Or.inr (Or.inl rfl) | exact Or.inr (Or.inr rfl))
    (hd' : (y == ("__debug__" : Str)) = false := by decide) (hcd' : (y == ("__classdict__" : Str)) = false := by decide)
    (hx : Loc X.env.scope y := by first | exact Or.inl rfl | exact Or.inr rfl) (hf : X.fn y = true ∨ X.env.scope.names.lookup y = some .local := by first | exact .inl rfl | exact .inr rfl)
    (hg : Gl X "tuple" := by rfl) (he : starEach [e] X.env = (false, eval e X.env) :: starEach [] X.env := by rfl) (hpl : (backTo cp (starEach [] X.env)).any (·.1) = false := by rfl)
    (he2 : starEach [eb] X.env = (false, eval eb X.env) :: starEach [] X.env := by rfl)
    (hs1 : swapsWith (.Call (.Name "tuple" p) [e] [] cp) (some (.Name y py)) pos.line X.env = pure false := by rfl)
    (hm : M2 X (.Name x p4) "get" apos (.Name y p5) (.List [] p6) cpos := by exact ⟨rfl, rfl, rfl, rfl⟩)
    (hst : ∀ v, assign (.Subscript (.Name x p1) (.Name y p2) p3) X.env v = (do
      let ov ← holding [v] (eval (.Name x p1) X.env)
      let iv ← holding [v, ov] (eval (.Name y p2) X.env)
      standAt p3
      holding [v, ov, iv] (setItem ov iv v)
      release [v, ov, iv] []) := by intro _; rfl)
    (hs : swapsWithSole [.Subscript (.Name x p1) (.Name y p2) p3] (.BinOp (.Call (.Attribute (.Name x p4) "get" apos) [.Name y p5, .List [] p6] [] cpos) .Add (.List [eb] p7) p8) pos2.line X.env = pure false := by rfl)
    (hsw : swappedStores [.Subscript (.Name x p1) (.Name y p2) p3] (.BinOp (.Call (.Attribute (.Name x p4) "get" apos) [.Name y p5, .List [] p6] [] cpos) .Add (.List [eb] p7) p8) X.env = pure none := by rfl)
    (h1 : (assignEach [.Subscript (.Name x p1) (.Name y p2) p3] X.env).map (·.2) = [assign (.Subscript (.Name x p1) (.Name y p2) p3) X.env] := by rfl) (ho : w.ox own := by first | exact trivial | rfl) (ho2 : w.ox (own.set j .s) := by first | exact trivial | rfl) :
    SJs X c w own on (.Assign [.Name y py] (.Call (.Name "tuple" p) [e] [] cp) pos :: .Assign [.Subscript (.Name x p1) (.Name y p2) p3] (.BinOp (.Call (.Attribute (.Name x p4) "get" apos) [.Name y p5, .List [] p6] [] cpos) .Add (.List [eb] p7) p8) pos2 :: rest) (sSeq (sTally i j A B) Bk) := by
  refine PSs.weak (pss_cons (ps_set hNd hN' hx (pe_callTy call_tuple_of hg hmt (by decide +kernel) (pa_cons ha pa_nil he) (by decide) (by decide) he hpl) hs1 hf)
    (pss_cons (ps_asg (pe_op op_addD (pe_dget2 (by omega) (pe_var hN hv hd hcd) (pe_var hN' hv' hd' hcd') (pe_lst pa_nil) hm) (pe_lst (pa_cons hb pa_nil he2))) (pg_sub (pe_var hN hv hd hcd) (pe_var hN' hv' hd' hcd') (set_dict (by omega)) hst) hs hsw h1) hr)) ?_
  rintro Dn σ H ⟨Z, ρ, φ, R0, h⟩
  unfold sSeq sTally at h
  refine ⟨Z, ρ, φ, R0, ?_⟩
  cases hA : A ρ φ with
  | bad => rw [hA] at h; exact h.elim
  | ex y l φ1 => rw [hA] at h; exact fun cls dx Z' H' e' w' r => h cls dx σ Z' H' own ho (R0.more e' w') r
  | ok l φ1 =>
    rw [hA] at h
    intro v1 Z1 H1 e1 w1 r1
    cases l with
    | lst ks =>
      cases hk : intsOf ks with
      | none => simp only [O.toR, hk] at h; exact h.elim
      | some ns =>
        cases hd0 : ρ[i]? with
        | none => simp only [O.toR, hk, hd0] at h; exact h.elim
        | some od =>
          cases od with
          | none => simp only [O.toR, hk, hd0] at h; exact h.elim
          | some dd =>
            cases dd with
            | dt d =>
              have hjl : j < ρ.length := by
                by_cases hj : ρ.length ≤ j
                · simp only [O.toR, hk, hd0, if_pos hj] at h; exact h.elim
                · omega
              have h' : PostS c w on (((B (ρ.set j (some (.tup ks))) φ1).toR (ρ.set j (some (.tup ks))) fun r φ2 => (match (valT d (keyL ns)).getD (.lst []) with
                | .lst os => if os.length < sizeLine ∧ d.length < sizeLine then .nx ((ρ.set j (some (.tup ks))).set i (some (.dt (putT d (keyL ns) (.lst (os ++ [r])))))) φ2 else .bad
                | _ => .bad)).seq Bk) Dn Z := by
                simp only [O.toR, hk, hd0, if_neg (show ¬ ρ.length ≤ j by omega)] at h
                exact h
              obtain ⟨p0, vs, rfl, hp0, rs⟩ := (show Res .p c.K c.f H1 Z1 H1 v1 (.lst ks) from r1).lst w1
              refine ⟨p0, vs, rfl, .inl ⟨SqL.of hp0, fun t ht => ?_⟩⟩
              obtain ⟨e2, w2, r2⟩ := new_tup (c := c) w1 rs ht
              have R2 := ((R0.more e1 w1).more e2 w2).setS (i := j) r2
              have hdj : (ρ.set j (some (D.tup ks)))[i]? = some (some (.dt d)) := by rw [List.getElem?_set_ne hij]; exact hd0
              have hwj : (own.set j .s)[i]? = some .o := by rw [List.getElem?_set_ne hij]; exact hw
              have hvs : vs = (keyL ns).map kV := by
                rw [keyL_kV]
                have := intsOf_inv hk
                subst this
                exact Reps.ints_inv rs
              obtain ⟨a, kvs, hia, hHa, rk, hza, haf⟩ := R2.cellT hwj hdj
              have hjt : (σ.set j (some (V.ref t)))[j]? = some (some (.ref t)) := List.getElem?_set_self (by rw [R0.len]; exact hjl)
              have ztt : (upd Z1 t (.tup vs)) t = some (.tup ((keyL ns).map kV)) := by rw [upd_same, hvs]
              refine ⟨.ref a, hia, a, rfl, .inr ⟨kvs, Rd.of hHa⟩, .ref t, hjt, (by decide : (0 : Nat) ≤ sizeLine), fun p hp => ?_⟩
              obtain ⟨e3, w3, r3⟩ := new_cell (c := c) w2 (.lst .nil) hp
              have R3 := R2.more e3 w3
              have hH3 : upd (upd H1 t (.tup vs)) p (.lst []) a = some (.dT kvs) := e3.h a _ haf hHa
              have hT3 : upd (upd H1 t (.tup vs)) p (.lst []) t = some (.tup ((keyL ns).map kV)) := w3.sub _ _ ztt
              refine ⟨valV kvs (keyL ns), DGet.t hH3 hT3, upd Z1 t (.tup vs), _, φ1, R3, ?_⟩
              have old : Res .p c.K c.f (upd H1 t (.tup vs)) (upd Z1 t (.tup vs)) (upd (upd H1 t (.tup vs)) p (.lst [])) ((valV kvs (keyL ns)).getD (.ref p)) ((valT d (keyL ns)).getD (.lst [])) := by
                cases hv : valT d (keyL ns) with
                | none => rw [rk.miss hv]; exact Res.o2p r3
                | some z =>
                  obtain ⟨y, e4, r4⟩ := rk.hit hv
                  rw [e4]
                  exact .inl r4
              cases hB : B (ρ.set j (some (.tup ks))) φ1 with
              | bad => rw [hB] at h'; exact h'.elim
              | ex y l φ2 =>
                rw [hB] at h'
                exact fun cls dx Z' H' e' w' r => h' cls dx _ Z' H' _ ho2 (R3.more e' w') r
              | ok r φ2 =>
                rw [hB] at h'
                intro v4 Z4 H4 e4 w4 r4
                refine ⟨(by decide : (1 : Nat) ≤ sizeLine), fun q hq => ?_⟩
                have r4' : Rep c.K c.f Z4 v4 r := r4
                obtain ⟨e5, w5, r5⟩ := new_cell (c := c) w4 (.lst (.cons r4' .nil)) hq
                cases hos : (valT d (keyL ns)).getD (.lst []) with
                | lst os =>
                  rw [hos] at old
                  have h2 : PostS c w on ((if os.length < sizeLine ∧ d.length < sizeLine then R.nx ((ρ.set j (some (.tup ks))).set i (some (.dt (putT d (keyL ns) (.lst (os ++ [r])))))) φ2 else .bad).seq Bk) Dn Z := by
                    simp only [O.toR, hos] at h'
                    exact h'
                  by_cases hsz : os.length < sizeLine ∧ d.length < sizeLine
                  · rw [if_pos hsz] at h2
                    rw [hK]
                    refine gAdd_ok (c := c) Z4 _ φ2 _ _ (.lst os) (.lst [r]) (.lst (os ++ [r])) w.W σ _ w5 ((old.pmono e4).pmono e5) (show Res .p c.K c.f H4 Z4 (upd H4 q (.lst [v4])) (.ref q) (.lst [r]) from Res.o2p r5) (by
                      show (if os.length + [r].length ≤ sizeLine then some (D.lst (os ++ [r])) else none) = _
                      rw [if_pos (by rw [List.length_singleton]; omega)]) ?_
                    intro v6 Z6 H6 e6 w6 r6
                    unfold Res at r6
                    rw [if_pos (by rfl)] at r6
                    obtain ⟨a6, o6, rfl, h0, hz6, hf6, ha6, rc6⟩ := r6
                    obtain ⟨e7, w7, r7⟩ := freeze e6 w6 h0 hz6 hf6 ha6 rc6
                    have R7 := ((R3.more e4 w4).more e5 w5).more e7 w7
                    obtain ⟨a', kvs', hia', hH7, rk7, hz7, _⟩ := R7.cellT hwj hdj
                    rw [hia] at hia'
                    cases hia'
                    have zt7 := e7.z _ _ (e5.z _ _ (e4.z _ _ (e3.z _ _ ztt)))
                    refine ⟨.ref a, hia, .ref t, hjt, a, _, rfl, DPut.t hH7 (w7.sub _ _ zt7) (by rw [rk7.length]; exact hsz.2), ?_⟩
                    exact ⟨_, _, φ2, R7.write hwj hdj rfl hia (.dt (rk7.put r7)), PostS.shift h2 fun b u q => e7.z _ _ (e5.z _ _ (e4.z _ _ (e3.z _ _ (e2.z _ _ (e1.z _ _ q)))))⟩
                  · rw [if_neg hsz] at h2; exact h2.elim
                | _ => simp only [O.toR, hos] at h'; exact h'.elim
            | _ => simp only [O.toR, hk, hd0] at h; exact h.elim
    | _ => simp only [O.toR] at h; exact h.elim
end
end Pf

set_option Elab.async false
set_option linter.all false
set_option maxRecDepth 100000
set_option maxHeartbeats 4000000
namespace Pf
open PySem PySem.Spec PyProof.Rows L2

/-! ## range with a step -/
def stepTo (a s : Int) (n : Nat) : List D := (List.range n).map fun (k : Nat) => D.int (a + (k : Nat) * s)
def rg3 : List D → Option (List D)
  | [.int i, .int j, .int s] => if s ≠ 0 ∧ s.natAbs < 1073741824 ∧ Builtin.Range.small i j s = true ∧ 0 ≤ Builtin.Range.rangeSize i j s then some (stepTo i s (Builtin.Range.rangeSize i j s).toNat) else none
  | _ => none
def iRg3 (A : SA) : SA := fun ρ φ => (A ρ φ).bind fun ds φ1 => ofO (rg3 ds) φ1
theorem walk_step {q : Bool} {c : Ct} {a s : Int} {n : Nat} {Z0 H0 : Hp} : Walk q c (Itc a s n) (stepTo a s n) Z0 H0 := by
  intro i Z H φ k w
  have hl : (stepTo a s n).length = n := by unfold stepTo; rw [List.length_map, List.length_range]
  refine ⟨fun e => (show n ≤ i by omega), fun d hd => ?_⟩
  have hi : i < n := by rw [← hl]; exact (List.getElem?_eq_some_iff.mp hd).1
  refine ⟨hi, fun x H' hx => ?_⟩
  obtain ⟨rfl, rfl⟩ := hx
  refine ⟨Z, .refl, w, ?_⟩
  unfold stepTo at hd
  rw [List.getElem?_map, List.getElem?_range hi] at hd
  cases hd
  exact .int _
section
variable {X : Cx} {c : Ct} {own : List Ms} {q : Bool} {W : WX} {pos p : Pos} {tg a b e : Expr} {A : SA}
theorem i_range3 (hm : X.mg "range" = none) (ha : AX X c own .p W [a, b, e] A) (hg : Gl X "range" := by rfl) (hs : starEach [a, b, e] X.env = (false, eval a X.env) :: starEach [b, e] X.env := by rfl) (hpl : (backTo pos (starEach [b, e] X.env)).any (·.1) = false := by rfl) :
    IJ X c own q W tg (.Call (.Name "range" p) [a, b, e] [] pos) (iRg3 A) := by
  refine PI.weak (pi_range3 hg hm ha hs hpl) ?_
  rintro σ H R0 ⟨Z, ρ, φ, R, h⟩
  refine ⟨Z, ρ, φ, R, PostA.bindI (R0 := R0) h fun ds φ1 xs Z1 H1 e1 w1 r1 h1 => ?_⟩
  obtain ⟨l0, hl, h2⟩ := ofO_ok (E := fun o => PostI c q W o σ Z1 H1 R0) h1 fun z => z
  match ds, xs, r1, hl with
  | [.int i, .int j, .int s], [x, y, z], r1, hl =>
    have hl' : (if s ≠ 0 ∧ s.natAbs < 1073741824 ∧ Builtin.Range.small i j s = true ∧ 0 ≤ Builtin.Range.rangeSize i j s then some (stepTo i s (Builtin.Range.rangeSize i j s).toNat) else none) = some l0 := hl
    obtain ⟨⟨c0, c1, c2, c3⟩, rfl⟩ := ifs hl'
    obtain ⟨r2, r3, r4, _⟩ := r1
    refine ⟨i, j, s, (Builtin.Range.rangeSize i j s).toNat, ?_, ⟨c0, c1, c2, (Int.toNat_of_nonneg c3).symm⟩, h2 _ Z1 H1 .refl w1 walk_step⟩
    rw [Res.int r2, Res.int r3, Res.int r4]
end

/-! ## a def as a value, and a call of a name that holds one -/
theorem PE.later {X : Cx} {e : Expr} {ι : Type} {t : ι → TE} (h : ∀ i, PE X e (t i)) : PE X e (fun σ H Q => ∃ i, t i σ H Q) := ⟨fun pins s σ H Q I ⟨i, q⟩ => (h i).run pins s σ H Q I q⟩
def eFnv (x : Str) : SX := fun _ φ => .ok (.fnv x) φ
/-- what the name in slot i does: tbl tells the defs that it may hold -/
def eCallV (i : Nat) (tbl : Str → Option Fn) (A : SA) : SX := fun ρ φ => match ρ[i]? with
  | some (some (.fnv x)) => (match tbl x with
    | some F => (match A ρ φ with
      | .ok ds φ1 => (match F ds φ1 with
        | .ok d φ2 => .ok d φ2
        | _ => .bad)
      | .ex y l φ1 => .ex y l φ1
      | .bad => .bad)
    | none => .bad)
  | _ => .bad
section
variable {X : Cx} {c : Ct} {own : List Ms} {m : Md} {W : WX} {pos p : Pos}
theorem x_fnv {x : Str} {f : Addr} (hK : X.K = c.K) (hn : PySem.W.nsIn X.K mainGlobals x = some (some (.ref f))) (hm : X.mg x = some (.ref f)) (hg : Gl X x := by rfl) (hd : (x == ("__debug__" : Str)) = false := by decide) : EX X c own .o W (.Name x pos) (eFnv x) := by
  refine PE.weak (pe_glob (v := .ref f) hg hm rfl hd) fun σ H Q ⟨Z, ρ, φ, R, h⟩ => h _ Z H .refl R.wf (Res.of_flat (.fnv ?_) rfl)
  rw [← hK]
  exact hn
/-- each def of the table stands in the text with its promise -/
def TblK (P : Program) (w : World) (K : PySem.W.Frag) (mg : Str → Option Value) (base : Heap) (cls : Str → Option (Addr × List Str)) (k : Nat) (pm : List Bool) (m : Md) (tbl : Str → Option Fn) : Prop := ∀ x F a, tbl x = some F → PySem.W.nsIn K mainGlobals x = some (some (.ref a)) → ∃ (fd : FuncData) (ps : List Str), PySem.W.keepIn K (.ref a) = true ∧ Binds K fd ps [] ∧ FnOk P w K mg base (L2N.CX P w) k a fd ps (spF cls K pm m F)
abbrev TblOk (X : Cx) (c : Ct) (k : Nat) (pm : List Bool) (m : Md) (tbl : Str → Option Fn) : Prop := TblK X.prog X.w X.K X.mg X.base c.cls k pm m tbl
theorem TblK.nil {P : Program} {w : World} {K : PySem.W.Frag} {mg : Str → Option Value} {base : Heap} {cls : Str → Option (Addr × List Str)} {k : Nat} {pm : List Bool} {m : Md} : TblK P w K mg base cls k pm m fun _ => none := fun _ _ _ h => by cases h
theorem TblK.cons {P : Program} {w : World} {K : PySem.W.Frag} {mg : Str → Option Value} {base : Heap} {cls : Str → Option (Addr × List Str)} {k j : Nat} {pm : List Bool} {m : Md} {tbl : Str → Option Fn} {y : Str} {G : Fn} {f : Addr} {fd : FuncData} {ps : List Str} (T : TblK P w K mg base cls k pm m tbl) (hn : PySem.W.nsIn K mainGlobals y = some (some (.ref f))) (hk : PySem.W.keepIn K (.ref f) = true) (hb : Binds K fd ps []) (hF : FnOk P w K mg base (L2N.CX P w) j f fd ps (spF cls K pm m G)) (hj : j ≤ k) :
    TblK P w K mg base cls k pm m fun x => if x = y then some G else tbl x := fun x F a ht ha => by
  by_cases h : x = y
  · subst h
    have ht' : (if x = x then some G else tbl x) = some F := ht
    rw [if_pos rfl] at ht'
    cases ht'
    rw [hn] at ha
    cases ha
    exact ⟨fd, ps, hk, hb, hF.mono hj⟩
  · have ht' : (if x = y then some G else tbl x) = some F := ht
    rw [if_neg h] at ht'
    exact T x F a ht' ha
theorem x_callV (i : Nat) {tbl : Str → Option Fn} {k : Nat} {pm : List Bool} {y : Str} {e : Expr} {es : List Expr} {A : SA} (hK : X.K = c.K) (T : TblOk X c k pm m tbl) (hr : Room k X.A) (ha : AXM X c own pm W (e :: es) A)
    (hN : X.N[i]? = some y := by rfl) (hv : Vis X.env.scope y := by first | exact Or.inl rfl | exact Or.inr (Or.inl rfl) | exact Or.inr (Or.inr rfl))
    (hdb : (y == ("__debug__" : Str)) = false := by decide) (hcd : (y == ("__classdict__" : Str)) = false := by decide)
    (he : starEach (e :: es) X.env = (false, eval e X.env) :: starEach es X.env := by rfl) (hpl : (backTo pos (starEach es X.env)).any (·.1) = false := by rfl) : EX X c own m W (.Call (.Name y p) (e :: es) [] pos) (eCallV i tbl A) := by
  refine PE.weak (PE.later (ι := { z : Str × Fn × Addr // tbl z.1 = some z.2.1 ∧ PySem.W.nsIn X.K mainGlobals z.1 = some (some (.ref z.2.2)) }) fun z => ?_) (fun σ H Q h => ?_) (t := fun σ H Q => ∃ z : { z : Str × Fn × Addr // tbl z.1 = some z.2.1 ∧ PySem.W.nsIn X.K mainGlobals z.1 = some (some (.ref z.2.2)) }, tCallL i z.1.2.2 (spF c.cls X.K pm m z.1.2.1) [] E0 (tM c own pm W A) σ H Q)
  · obtain ⟨fd, ps, h2, h3, h4⟩ := T _ _ _ z.2.1 z.2.2
    exact pe_callL (i := i) h4 hr hN hv h2 h3 .nil passN ha hdb hcd he hpl
  · obtain ⟨Z, ρ, φ, R, h⟩ := h
    unfold eCallV at h
    cases hi : ρ[i]? with
    | none => simp only [hi] at h; exact h.elim
    | some oi =>
      cases oi with
      | none => simp only [hi] at h; exact h.elim
      | some di =>
        cases di with
        | fnv x =>
          simp only [hi] at h
          cases ht : tbl x with
          | none => simp only [ht] at h; exact h.elim
          | some F =>
            simp only [ht] at h
            obtain ⟨v, hv', rv⟩ := R.look hi
            have rf : Rep c.K c.f Z v (.fnv x) := rv.flat rfl
            cases rf with
            | cel _ q => cases q
            | fnv hns =>
              rename_i a
              refine ⟨⟨(x, F, a), ht, by rw [hK]; exact hns⟩, hv', Z, ρ, φ, R, ?_⟩
              cases hA : A ρ φ with
              | bad => rw [hA] at h; exact h.elim
              | ex y l φ1 => rw [hA] at h; exact h
              | ok ds φ1 =>
                rw [hA] at h
                intro vs Z1 H1 e1 w1 r1
                show spF c.cls X.K pm m F (vs ++ []) H1 Q E0
                rw [List.append_nil]
                refine ⟨c.f, Z1, ds, φ1, by rw [hK]; exact w1, by rw [hK]; exact r1, ?_⟩
                rw [hK]
                cases hF : F ds φ1 with
                | ok d φ2 =>
                  simp only [hF] at h
                  exact fun v Z' H' e' w' r' => h v Z' H' (e1.trans e') w' (r'.start e1.k)
                | ex _ _ _ => simp only [hF] at h; exact h.elim
                | bad => simp only [hF] at h; exact h.elim
        | _ => simp only [hi] at h; exact h.elim
end
end Pf

set_option Elab.async false
set_option linter.all false
set_option maxRecDepth 100000
set_option maxHeartbeats 2000000
namespace PySem
namespace XcAt
open PySem.W PySem.Calls PyProof.Rows PySem.HandSPX
/-! ### the text of __init__ -/
def iA (p1 p2 : Pos) : Arguments := { posonlyargs := [], args := [{ arg := "self", annotation := none, pos := p1 }, { arg := "at", annotation := none, pos := p2 }], vararg := none, kwonlyargs := [], kw_defaults := [], kwarg := none, defaults := [] }
def iB (q1 q2 q3 q4 : Pos) : List Stmt := [.Assign [.Attribute (.Name "self" q1) "at" q2] (.Name "at" q3) q4]
def iS : Scope := { kind := .function, names := [(PySem.Str.ofString "self", .local), (PySem.Str.ofString "at", .local)], isGenerator := false, isCoroutine := false, more := [] }
/-- what the written part says of Low, at C, and of its __init__, at fI -/
structure XcTxt (K : Frag) (mg : Str → Option Value) (x qn : Str) (C fI : Addr) : Prop where
  gC : mg x = some (.ref C)
  cls : ∃ nm q N bs bm sn sub ab col dd k0 k1 k2 k3 k5, K.lookup C = some (excClassObj nm q C N bs bm true sn sub ab col dd k0 k1 k2 k3 k5 "ValueError.__new__") ∧ refsVE bm = true
  sa : findIn K (.ref C) "__setattr__" = some (some (.builtin "object.__setattr__"))
  ga : findIn K (.ref C) "__getattribute__" = some (some (.builtin "BaseException.__getattribute__"))
  gg : findIn K (.ref C) "__getattr__" = some none
  noN : findIn K (.ref C) "at" = some none
  iC : findIn K (.ref C) "__init__" = some (some (.ref fI))
  tC : typeIn K (.ref fI) = some (.type "function")
  kC : keepIn K (.ref C) = true
  exC : subIn K (.ref C) (.type "BaseException") = some true
  tyC : typeIn K (.ref C) = some (.type "type")
  hdC : hasDictIn K C = true
  te : exmOne K (.ref C) (.ref C) = some true
  fn : ∃ (oc : Value) (od : Option Addr) (doc pm : Value) (an : Option Addr) (cdv ct : Value) (osl : Array (Option Value)) (p1 p2 q1 q2 q3 q4 : Pos),
    K.lookup fI = some ⟨oc, od, .func (fnOf "__init__" qn (iA p1 p2) (iB q1 q2 q3 q4) iS .none .none doc pm an cdv ct), osl⟩ ∧ codeIn K cdv qn = true
theorem one_size (v : Value) : [v].length ≤ sizeLine := by
  rw [sizeLine_eq]
  exact (by decide : 1 ≤ 16777216)
theorem kept_but {K : Frag} {h h' : Heap} {x : Addr} (X : K.In h) (hx : K.lookup x = none) (k : ∀ b o, b ≠ x → h.get? b = some o → h'.get? b = some o) : K.In h' := fun a o e =>
  k a o (fun z => by rw [z, hx] at e; cases e) (X a o e)
theorem ldC {M : Model} {s : Shared} {name : Str} {scope : Scope} {L a : Addr} {cd : Value} {m : Str → Option Value} {x : Str} {pos : Pos} {v : Value} {Q : Value → Shared → Prop} {A : Around} {E : Value → Shared → Prop} (hn : s.heap.Ns L m) (hv : m x = some v) (h : Q v s)
    (hk : scope.kind = .function := by rfl) (hl : (envOfC name scope L a cd).kindOf x = some .local := by rfl) (hd : (x == ("__debug__" : Str)) = false := by decide) :
    wpAny M A (eval (.Name x pos) (envOfC name scope L a cd)) Q E s := wpAny_Name (wpAny_loadName_local hk hl hn hv h) hd
/-- what __init__ leaves of a fresh exception at x -/
structure InitEnd (h h' : Heap) (x C dx t1 : Addr) (v : Value) : Prop where
  keep : ∀ b o, b ≠ x → h.get? b = some o → h'.get? b = some o
  obj : h'.get? x = some { cls := .ref C, dict := some dx, data := .fields #[.ref t1, .none, .none, .none, .bool false, .none] }
  dbig : h.objs.size ≤ dx
  dne : dx ≠ x
  ns : h'.Ns1 dx (fun y => if y = "at" then some v else none)
/-- a made Low -/
structure OwnMade (h h' : Heap) (e C d : Addr) (v : Value) : Prop where
  keep : ∀ b o, h.get? b = some o → h'.get? b = some o
  new : h.objs.size ≤ e
  obj : ∃ oe vs, h'.get? e = some oe ∧ oe.cls = .ref C ∧ oe.dict = some d ∧ oe.data = .fields vs ∧ vs[1]? = some .none ∧ vs[2]? = some .none
  dbig : h.objs.size ≤ d
  dne : d ≠ e
  ns : h'.Ns1 d (fun y => if y = "at" then some v else none)
section
variable {prog : Program} {w : World} {A : Around} {E : Value → Shared → Prop} {R : Result → Shared → Prop} {s : Shared} {K : Frag} {mg : Str → Option Value} {C fI : Addr}
theorem xc_init {cx qn : Str} (T : XcTxt K mg cx qn C fI) {x t0 : Addr} {v : Value} (X : K.In s.heap) (hlim : s.heap.NoLimit) (hx : s.heap.get? x = some (excO C t0)) (hnx : K.lookup x = none) (hroom : A.depth < recursionLimit)
    (hq : ∀ h' tk dx, InitEnd s.heap h' x C dx t0 v → R (.ok (.ret .none)) { s with heap := h', toks := tk }) :
    codeAny (model prog w) A (.call (.ref fI) ⟨[.ref x, v], []⟩) R s := by
  obtain ⟨oc, od, doc, pm, an, cdv, ct, osl, p1, p2, q1, q2, q3, q4, ho, hcd⟩ := T.fn
  obtain ⟨nm, q, N, bs, bm, sn, sub, ab, col, dd, k0, k1, k2, k3, k5, hC, hbm⟩ := T.cls
  have hcl : clsIn K C = some { name := nm, bases := bs, mro := .ref C :: bm, ns := N, qualname := q, hasDict := true, slotNames := sn, subclasses := sub, abstract := ab, collection := col, hasDel := false } := by unfold clsIn; rw [hC] <;> rfl
  refine Att.call_fn (binds := [("self", .ref x), ("at", v)]) X hlim ho hcd hroom (BindsTo.of_eq (by first | rfl | with_unfolding_all rfl)) (by first | rfl | decide | with_unfolding_all rfl) (fun s₁ IC => ?_) rfl rfl rfl
  obtain ⟨h₁, tk₁, rfl⟩ := IC.toInCall.same
  have k : ∀ b o, s.heap.get? b = some o → h₁.get? b = some o := IC.toInCall.keep
  have hn := IC.toInCall.ns
  have hxL : s.heap.objs.size ≠ x := Nat.ne_of_gt (Heap.lt_size hx)
  have X₁ : K.In h₁ := X.keeps k
  have hx₁ := k _ _ hx
  -- self.by = by
  show wpAny _ _ (execs _ _) _ _ _
  refine wpAny_execs_cons (plainObj_wpAny_Assign_Attribute ?_)
  refine ldC (v := v) hn (by first | rfl | with_unfolding_all rfl | kernel_rfl) (ldC (v := .ref x) hn (by first | rfl | with_unfolding_all rfl | kernel_rfl) ?_)
  refine set_plain X₁ (ox := excO C t0) (od := none) ⟨hx₁, rfl, rfl, trivial⟩ T.sa ?_
  refine exc_osa X₁ hx₁ hcl (show refsVE (.ref C :: bm) = true from hbm) rfl T.noN (fun h₃ tk₃ dx k₃ dn dne hx₃ hn₃ => ?_)
  show wpAny _ _ (execs _ _) _ _ _
  have z : s.heap.objs.size < h₁.objs.size := hn.lt
  exact wpAny_execs_nil (hq h₃ tk₃ dx ⟨fun b o hb e => k₃ b o hb (k b o e), hx₃, Nat.le_of_lt (Nat.lt_of_lt_of_le z dn), dne, hn₃⟩)
theorem xc_made {x qn : Str} (T : XcTxt K mg x qn C fI) {v : Value} (X : K.In s.heap) (hlim : s.heap.NoLimit) (hroom : A.depth + 1 < recursionLimit)
    (hq : ∀ h' tk e d, OwnMade s.heap h' e C d v → R (.ok (.ret (.ref e))) { s with heap := h', toks := tk }) :
    codeAny (model prog w) A (.call (.ref C) ⟨[v], []⟩) R s := by
  obtain ⟨nm, q, N, bs, bm, sn, sub, ab, col, dd, k0, k1, k2, k3, k5, hC, hbm⟩ := T.cls
  obtain ⟨hp, g, dr, tk, os⟩ := s
  have k : ∀ b o, hp.get? b = some o → ((hp.push (kdv_tup [v])).push (excO C hp.objs.size)).get? b = some o := fun b o e => Heap.get?_push_of_some _ (Heap.get?_push_of_some _ e)
  have hget : ((hp.push (kdv_tup [v])).push (excO C hp.objs.size)).get? (hp.objs.size + 1) = some (excO C hp.objs.size) := by heap_get
  have hnx : K.lookup (hp.objs.size + 1) = none := by
    cases e : K.lookup (hp.objs.size + 1) with
    | none => rfl
    | some o =>
      have z : hp.get? (hp.objs.size + 1) = some o := X _ _ e
      exact absurd (Nat.lt_of_succ_lt (Heap.lt_size z)) (Nat.lt_irrefl _)
  refine call_own F.excBase_ValueError (fun X => refsVE_contains X bm hbm) (X _ _ hC) (looks_findIn X T.iC) (fun self => bind_fn X self T.tC) (one_size v) ?_
  refine xc_init (s := ⟨(hp.push (kdv_tup [v])).push (excO C hp.objs.size), g, dr, tk, os⟩) T (X.keeps k) (hlim.keeps k) hget hnx ?_ fun h' tk' dx ⟨k', hx, dn, dne, hns⟩ => ?_
  · show A.depth + 1 < recursionLimit
    exact hroom
  · have old : ∀ b o, hp.get? b = some o → h'.get? b = some o := fun b o e => k' b o (Nat.ne_of_lt (Nat.lt_succ_of_lt (Heap.lt_size e))) (k b o e)
    have z : hp.objs.size + 1 + 1 ≤ dx := by
      first
        | (simpa only [Heap.size_push] using dn)
        | exact dn
        | (have q := dn; rw [Heap.size_push, Heap.size_push] at q; exact q)
    exact ⟨rfl, hq h' tk' (hp.objs.size + 1) dx ⟨old, Nat.le_succ _, ⟨_, _, hx, rfl, rfl, rfl, rfl, rfl⟩, Nat.le_trans (Nat.le_trans (Nat.le_succ _) (Nat.le_succ _)) z, dne, hns⟩⟩
end
end XcAt
end PySem
namespace L2
open PySem PySem.Spec PyProof.Rows
theorem relO_at {v : V} {v' : Value} (r : RelV v v') (f : Str) : RelO (List.lookup f [(("at" : Str), v)]) (if f = "at" then some v' else none) := by
  by_cases hw : f = "at"
  · subst hw
    rw [if_pos rfl]
    have q : List.lookup ("at" : Str) [(("at" : Str), v)] = some v := by simp [List.lookup]
    rw [q]
    exact r
  · rw [if_neg hw]
    have qw : (f == ("at" : Str)) = false := by simpa using hw
    have q2 : List.lookup f [(("at" : Str), v)] = none := by simp [List.lookup, qw]
    rw [q2]
    trivial
section
variable {X : Cx} {C fI : Addr} {x qn : Str}
/-- Low(e) -/
def tMkAt (C : Addr) (ta : TA) : St → Hp → XK → Prop := fun σ H Q => ta σ H fun vs H1 => ∃ v, vs = [v] ∧ ∀ d, H1 d = none → Q (.ref C) (some d) (upd H1 d (.xd [(("at" : Str), v)]))
theorem pmk_at {a : Expr} {ta : TA} {p pos : Pos} {k : Nat} (T : PySem.XcAt.XcTxt X.K X.mg x qn C fI) (hr : Room k X.A) (ha : PA X [a] ta) (hg : Gl X x := by rfl) (hdb : (x == ("__debug__" : Str)) = false := by decide)
    (he : starEach (a :: []) X.env = (false, eval a X.env) :: starEach [] X.env := by rfl) (hpl : (backTo pos (starEach [] X.env)).any (·.1) = false := by rfl) :
    L2N.PMk X (.Call (.Name x p) [a] [] pos) (tMkAt C ta) := by
  intro pins s σ H Q I h
  refine wpAny_Call_Name_kw (ld_glob I hg T.gC ?_ hdb)
  refine PySem.W.callWith_K (h₀ := X.base) I.ok.mod.kin T.kC (thn (ha.run pos pins s σ H _ I h) fun us s1 hh => ?_) he hpl
  obtain ⟨vs, H1, I1, r1, v, ev, q1⟩ := hh
  subst ev
  refine ⟨I1.kIn, ?_⟩
  cases r1 with
  | cons rv rn =>
    rename_i v' us'
    cases rn
    show wpAny _ _ (call (.ref C) [v']) _ _ _
    have hlim := I1.nolimit
    obtain ⟨hp, g, dr, tk, os⟩ := s1
    refine wpAny_call (PySem.XcAt.xc_made T I1.kIn hlim (by have := hr.dp; omega) fun h' tk' e d M => ?_)
    show L2N.MkP X pins σ Q (.ref e) ⟨h', g, dr, tk', os⟩
    obtain ⟨oe, fv, hoe, hc, hd, hdat, h1, h2⟩ := M.obj
    have hns := M.ns
    obtain ⟨G', g1, g2⟩ := restrict h' fun b => decide (b ≠ e)
    have gk : ∀ b, b ≠ e → G'.get? b = h'.get? b := fun b hb => g1 b (decide_eq_true hb)
    have ge : G'.get? e = none := g2 e (by simp)
    have old : ∀ b o, hp.get? b = some o → G'.get? b = some o := fun b o q => (gk b (Nat.ne_of_lt (Nat.lt_of_lt_of_le (Heap.lt_size q) M.new))).trans (M.keep b o q)
    have ob : ObjOk X.prog X.w (upd H1 d (.xd [(("at" : Str), v)])) G' d (.xd [(("at" : Str), v)]) :=
      ⟨_, hns.at (fun o q => (gk d M.dne).trans q), fun f => relO_at rv f⟩
    have J : Inv X pins σ (upd H1 d (.xd [(("at" : Str), v)])) ⟨G', g, dr, tk', os⟩ := I1.laid (t' := tk') old M.dbig ob
    refine ⟨e, oe, fv, ⟨G', g, dr, tk', os⟩, _, .ref C, some d, rfl, J, fun b o q => ?_, ge, hoe, ⟨hc, hd, fun vs e => by rw [hdat] at e; cases e; exact h2⟩, hdat, h1, ?_, rfl, I1.bare, raises_own T.exC T.tyC, q1 d (I1.hok.fresh M.dbig)⟩
    · by_cases hb : b = e
      · have q' : G'.get? b = some o := q
        rw [hb, ge] at q'; cases q'
      · exact (gk b hb).symm.trans q
    · rw [upd_ne (Ne.symm M.dne)]
      exact I1.hok.fresh M.new
end
end L2


set_option Elab.async false
set_option linter.all false
set_option maxRecDepth 100000
set_option maxHeartbeats 4000000
namespace Pf
open PySem PySem.Spec PyProof.Rows L2

/-! ## raise -/
theorem upd_ext {c : Ct} {Z H : Hp} {φ : Fd} {p : Addr} (o : HO) (ho : ∀ xs, o ≠ .tup xs) (w : Wf c.K c.f Z H φ) (hp : H p = none) : p ≠ c.f ∧ Ext c.f Z H Z (upd H p o) ∧ Wf c.K c.f Z (upd H p o) φ := by
  have hf : p ≠ c.f := fun e => w.hf (e ▸ hp)
  have up : ∀ b u, H b = some u → upd H p o b = some u := fun b u q => by rw [upd_ne (ne_of_none q hp)]; exact q
  refine ⟨hf, ⟨fun _ _ q => q, fun b u _ q => up b u q, fun b hb => ?_, fun _ _ q => q, .same (upd_ne (Ne.symm hf))⟩, ⟨fun b u q => up b u (w.sub b u q), w.zf, ?_, w.ok, w.tt.upd ho⟩⟩
  · cases e : H b with
    | none => exact absurd e hb
    | some u => rw [up b u e]; simp
  · obtain ⟨s, h1, h2⟩ := w.feed
    exact ⟨s, h1, up _ _ h2⟩
/-- raise x(e) -/
def sRaise (x : Str) (A : SA) : SS := fun ρ φ => match A ρ φ with
  | .ok ds φ1 => if ds.length = 1 then .ex x ds ρ φ1 else .bad
  | .ex y l φ1 => .ex y l ρ φ1
  | .bad => .bad
section
variable {X : Cx} {c : Ct} {w : Ow} {own on : List Ms} {pos : Pos}
theorem s_raise {x qn : Str} {C fI : Addr} {e : Expr} {A : SA} {p pos2 : Pos} {k : Nat} (T : PySem.XcAt.XcTxt X.K X.mg x qn C fI) (hcls : c.cls x = some (C, [("at" : Str)])) (hc : X.calm = true) (hr : Room k X.A) (tk : L2N.Takes X w.W) (ha : AX X c own .s w.W [e] A)
    (hg : Gl X x := by rfl) (hdb : (x == ("__debug__" : Str)) = false := by decide)
    (he : starEach (e :: []) X.env = (false, eval e X.env) :: starEach [] X.env := by rfl) (hpl : (backTo pos (starEach [] X.env)).any (·.1) = false := by rfl) (ho : w.ox own := by first | exact trivial | rfl) :
    SJ X c w own on (.Raise (some (.Call (.Name x p) [e] [] pos)) none pos2) (sRaise x A) := by
  refine PS.weak (L2N.ps_raise hc tk (L2.pmk_at T hr ha hg hdb he hpl)) ?_
  rintro Dn σ H ⟨Z, ρ, φ, R0, h⟩
  refine ⟨Z, ρ, φ, R0, ?_⟩
  unfold sRaise at h
  cases hA : A ρ φ with
  | bad => rw [hA] at h; exact h.elim
  | ex y l φ1 => rw [hA] at h; exact fun cls dx Z' H' e' w' r => h cls dx σ Z' H' own ho (R0.more e' w') r
  | ok ds φ1 =>
    rw [hA] at h
    intro vs Z1 H1 e1 w1 r1
    have h' : PostS c w on (if ds.length = 1 then R.ex x ds ρ φ1 else .bad) Dn Z := h
    by_cases hl : ds.length = 1
    · rw [if_pos hl] at h'
      have hv : vs.length = 1 := by rw [r1.length]; exact hl
      obtain ⟨v, rfl⟩ := List.length_eq_one_iff.mp hv
      refine ⟨v, rfl, fun d hd => ?_⟩
      obtain ⟨hf, e2, w2⟩ := upd_ext (c := c) (.xd [(("at" : Str), v)]) (fun _ h => by cases h) w1 hd
      refine h' (.ref C) (some d) σ Z1 (upd H1 d (.xd [(("at" : Str), v)])) own ho (R0.more (e1.trans e2) w2) ⟨C, [("at" : Str)], hcls, rfl, [v], r1.reps, rfl, .inr ⟨d, rfl, hf, ?_⟩⟩
      rw [upd_same]
      rfl
    · rw [if_neg hl] at h'
      exact h'.elim
end

/-! ## try: a body, except x as n: a suite that returns -/
def sTry (i : Nat) (y : Str) (A B : SS) : SS := fun ρ φ => match A ρ φ with
  | .ex x l ρ1 φ1 => if x = y ∧ i < ρ1.length then (match B (ρ1.set i (some (.exn y l))) φ1 with
    | .rt d φ2 => .rt d φ2
    | _ => .bad) else .bad
  | r => r
/-- how the caught exception lies: it is at a, its dict at d -/
structure Held (c : Ct) (i : Nat) (y : Str) (C : Addr) (fs : List Str) (a : Addr) (d : Option Addr) : Prop where
  s0 : c.s0[i]? = some (some (.ref a))
  r0 : ∃ l vs, c.r0[i]? = some (some (.exn y l)) ∧ Reps c.K c.f c.Z vs l ∧ vs.length = fs.length ∧ (fs = [] ∨ ∃ dd, d = some dd ∧ dd ≠ c.f ∧ c.H dd = some (.xd (fs.zip vs)))
theorem takes0N {X : Cx} : L2N.Takes X (fun _ _ _ _ => False) := fun _ _ x => by
  obtain ⟨_, _, _, _, _, _, _, _, _, _, _, _, _, _, _, _, z⟩ := x
  exact z.elim
section
variable {X : Cx} {c : Ct} {w : Ow} {own on own1 : List Ms} {pos pos' np : Pos}
theorem s_try (i : Nat) {y xn n : Str} {C : Addr} {fs : List Str} {cV : Value} {body suite : List Stmt} {b₀ : Stmt} {A B : SS} (hK : X.K = c.K) (hcls : c.cls y = some (C, fs)) (hex : PySem.W.exmOne X.K (.ref C) cV = some true) (hc : Names X xn cV)
    (hb : ∀ (W : WX) (pn : List (Addr × Obj)) (xe : Value → Shared → Prop), L2N.Takes (X.tr pn xe) W → SJs (X.tr pn xe) c ⟨w.m, W, fun o => o = own, w.lp⟩ own on body A)
    (hsu : ∀ (a : Addr) (oe : Obj) (d : Option Addr) (pn : List (Addr × Obj)) (Z : Hp) (ρ : En) (σ : L2.St) (H : Hp), L2N.Zn (.ref C) d oe → (∃ vs, oe.data = .fields vs) → Held (subC c Z ρ σ H) i y C fs a d →
      SJs (X.suite a ((a, oe) :: pn)) (subC c Z ρ σ H) ⟨w.m, W0, fun _ => True, []⟩ (ownIn (own.set i .s)) own1 (b₀ :: suite) B)
    (hs : X.stack = X.env :: X.outer := by rfl) (hf : X.env.frame = some X.env.locals := by rfl) (hN : X.N.Nodup := by decide) (hi : X.N[i]? = some n := by rfl) (hln : X.env.kindOf n = some .local := by rfl) :
    SJ X c w own on (.Try body [.ExceptHandler (some (.Name xn np)) (some n) (b₀ :: suite) pos'] [] [] pos) (sTry i y A B) := by
  let ts : Addr → Value → Option Addr → TS := fun a cls d Dn σ H => ∃ ix : { q : Hp × En × L2.St × Hp // Held (subC c q.1 q.2.1 q.2.2.1 q.2.2.2) i y C fs a d ∧ cls = .ref C }, tS (subC c ix.1.1 ix.1.2.1 ix.1.2.2.1 ix.1.2.2.2) ⟨w.m, W0, fun _ => True, []⟩ (ownIn (own.set i .s)) own1 B Dn σ H
  refine PS.weak (L2N.ps_try_as (i := i) (tb := fun W => tS c ⟨w.m, W, fun o => o = own, w.lp⟩ own on A) (ts := ts) (Wout := fun _ _ _ _ => False) hs hf hN hi hln hc takes0N (fun W pn xe tk _ => hb W pn xe tk) (fun a oe cls d pn hz hf' => PSs.later fun ix => ?_)) ?_
  · obtain ⟨hh, rfl⟩ := ix.2
    exact hsu a oe d pn _ _ _ _ hz hf' hh
  · rintro Dn σ H ⟨Z, ρ, φ, R0, h⟩
    refine ⟨Z, ρ, φ, R0, ?_⟩
    unfold sTry at h
    cases hA : A ρ φ with
    | nx ρ1 φ1 => rw [hA] at h; exact h
    | rt d φ1 => rw [hA] at h; exact h
    | bk ρ1 φ1 => rw [hA] at h; exact h
    | ct ρ1 φ1 => rw [hA] at h; exact h
    | bad => rw [hA] at h; exact h
    | ex x l ρ1 φ1 =>
      rw [hA] at h
      have h' : PostS c w on (if x = y ∧ i < ρ1.length then (match B (ρ1.set i (some (.exn y l))) φ1 with | .rt d φ2 => R.rt d φ2 | _ => .bad) else .bad) Dn Z := h
      intro cls dx σ1 Z1 H1 ow hw R1 xr
      have hw' : ow = own := hw
      rw [hw'] at R1
      by_cases hxy : x = y ∧ i < ρ1.length
      · rw [if_pos hxy] at h'
        obtain ⟨rfl, hil⟩ := hxy
        obtain ⟨C', fs', e1, rfl, vs, rp, hl, hd⟩ := xr
        rw [hcls] at e1
        cases e1
        refine ⟨true, hex, fun _ a ha => ?_, fun q => nomatch q⟩
        have R2 : Rl c (own.set i .s) Z1 (ρ1.set i (some (.exn x l))) φ1 (σ1.set i (some (.ref a))) H1 := R1.setS .exn
        refine ⟨⟨⟨Z1, ρ1.set i (some (.exn x l)), σ1.set i (some (.ref a)), H1⟩, ⟨⟨?_, l, vs, ?_, rp, hl, hd⟩, rfl⟩⟩, Z1, _, φ1, R2.enter, ?_⟩
        · show (σ1.set i (some (.ref a)))[i]? = _
          rw [List.getElem?_set_self (by rw [R1.len]; exact hil)]
        · show (ρ1.set i (some (.exn x l)))[i]? = _
          rw [List.getElem?_set_self hil]
        · cases hB : B (ρ1.set i (some (.exn x l))) φ1 with
          | rt d φ2 =>
            rw [hB] at h'
            exact fun v Z2 H2 e2 w2 r2 => h' v Z2 H2 (R1.ext.trans e2) w2 (r2.start R1.ext.k)
          | nx _ _ => rw [hB] at h'; exact h'.elim
          | bk _ _ => rw [hB] at h'; exact h'.elim
          | ct _ _ => rw [hB] at h'; exact h'.elim
          | ex _ _ _ _ => rw [hB] at h'; exact h'.elim
          | bad => rw [hB] at h'; exact h'.elim
      · rw [if_neg hxy] at h'
        exact h'.elim
end
end Pf

set_option Elab.async false
set_option linter.all false
set_option maxRecDepth 100000
set_option maxHeartbeats 4000000
namespace Pf
open PySem PySem.Spec PyProof.Rows L2

section
variable {X : Cx} {c : Ct} {own : List Ms} {m : Md} {W : WX} {pos p p2 p3 : Pos} {a C : Addr} {oe : Obj} {d : Option Addr} {pn : List (Addr × Obj)} {y : Str} {fs : List Str}
/-- the exception that slot i holds -/
theorem held_at {Z H : Hp} {ρ : En} {φ : Fd} {σ : L2.St} {i : Nat} {l : List D} (hh : Held c i y C fs a d) (ho : own[i]? = some .r) (R : Rl c own Z ρ φ σ H) (h : ρ[i]? = some (some (.exn y l))) :
    σ[i]? = some (some (.ref a)) ∧ ∃ vs, Reps c.K c.f Z vs l ∧ vs.length = fs.length ∧ (fs = [] ∨ ∃ dd, d = some dd ∧ H dd = some (.xd (fs.zip vs))) := by
  obtain ⟨h1, h2⟩ := R.pn i _ h (.inr ho)
  obtain ⟨l', vs, h3, h4, h5, h6⟩ := hh.r0
  rw [h1] at h3
  cases h3
  refine ⟨h2.trans hh.s0, vs, h4.mono R.ext.z, h5, ?_⟩
  rcases h6 with h6 | ⟨dd, e1, e2, e3⟩
  · exact .inl h6
  · exact .inr ⟨dd, e1, R.ext.h dd _ e2 e3⟩
/-- e.f, f the one field -/
def eXf (i : Nat) (y : Str) : SX := fun ρ φ => match ρ[i]? with
  | some (some (.exn x [d])) => if x = y then .ok d φ else .bad
  | _ => .bad
theorem x_xf (i : Nat) {n f : Str} (T : L2.XfC X.K C) (hno : PySem.W.findIn X.K (.ref C) f = some none) (hz : L2N.Zn (.ref C) d oe) (hf : ∃ vs, oe.data = .fields vs) (hh : Held c i y C [f] a d) (ho : own[i]? = some .r := by rfl)
    (hN : X.N[i]? = some n := by rfl) (hv : Vis X.env.scope n := by first | exact Or.inl rfl | exact Or.inr (Or.inl rfl) | exact Or.inr (Or.inr rfl))
    (hd : (n == ("__debug__" : Str)) = false := by decide) (hcd : (n == ("__classdict__" : Str)) = false := by decide)
    (hb : attributeBase (.Name n p) f X.env (eval (.Name n p) X.env) = eval (.Name n p) X.env := by rfl) :
    EX (X.suite a ((a, oe) :: pn)) c own .s W (.Attribute (.Name n p) f pos) (eXf i y) := by
  refine PE.weak (L2.pe_xf T hno hz.zc hf (L2.pe_var (X := X.suite a ((a, oe) :: pn)) hN hv hd hcd) hb) ?_
  rintro σ H Q ⟨Z, ρ, φ, R, h⟩
  unfold eXf at h
  split at h
  · rename_i x z hi
    have h' : Post c .s W (if x = y then .ok z φ else .bad) σ Z H Q := h
    by_cases e : x = y
    · subst e
      rw [if_pos rfl] at h'
      obtain ⟨h1, vs, h2, h3, h4⟩ := held_at hh ho R hi
      rcases h4 with h4 | ⟨dd, e1, e2⟩
      · cases h4
      · obtain ⟨v, rfl⟩ := List.length_eq_one_iff.mp (show vs.length = 1 from h3)
        cases h2 with
        | cons rv _ => exact ⟨.ref a, h1, rfl, rfl, dd, [(f, v)], v, e1, e2, by simp [List.lookup], h' v Z H .refl R.wf rv⟩
    · rw [if_neg e] at h'
      exact h'.elim
  · exact h.elim
/-- isinstance(e, D), e the caught exception -/
def eIsX (i : Nat) (y : Str) (b : Bool) : SX := fun ρ φ => match ρ[i]? with
  | some (some (.exn x _)) => if x = y then .ok (.bl b) φ else .bad
  | _ => .bad
def rIsX (K : PySem.W.Frag) (C a dd : Addr) : List V → Hp → VK → Prop := fun xs H Q => ∃ (T : Addr) (b : Bool) (fs : List (Str × V)), xs = [.ref a, .ref T] ∧ H dd = some (.xd fs) ∧ PySem.W.kitOne K (.ref C) (.ref T) = some b ∧ Q (.bl b) H
theorem call_isX {dd : Addr} (T : L2.ExcC X.K C) (hz : L2N.Zn (.ref C) (some dd) oe) (hf : ∃ vs, oe.data = .fields vs) : CallR (X.suite a ((a, oe) :: pn)) (.builtin "isinstance") (rIsX X.K C a dd) := by
  intro pins s σ H xs us Q I r h
  obtain ⟨T', b, fs, rfl, hdd, e, q⟩ := h
  cases r with
  | cons rx rr =>
    cases rr with
    | cons rt rr =>
      cases rr
      cases rx
      cases rt
      obtain ⟨hget, _⟩ := I.pin (a, oe) (List.mem_append.mpr (.inl List.mem_cons_self))
      obtain ⟨vs, hv⟩ := hf
      have hx : ObjOk X.prog X.w H s.heap dd (.xd fs) := I.hok dd _ hdd
      obtain ⟨mA, hns, hr⟩ := hx
      obtain ⟨od, ho, hl⟩ := lookIn_ns hns
      have J : PySem.W.InstAt s.heap a oe C (some od) := ⟨hget, hz.1, by unfold PySem.W.notCls; rw [hv] <;> rfl, by rw [hz.2.1]; exact ho⟩
      have hcl : (PySem.W.clsIn X.K C).isSome = true := by
        obtain ⟨cd, hc, _⟩ := PySem.W.any_some T.hd
        rw [hc]
        rfl
      exact PySem.W.kia_one (PySem.W.kitx_exc hcl T.hg T.hk T.hs T.ha T.hn T.ht T.hm) I.kIn J e (fun z => nomatch z) fun tk => ⟨.bl b, H, I.kept (t' := tk) fun _ _ z => z, rfl, q⟩
theorem x_isX (i : Nat) {n x2 : Str} {T : Addr} {f : Str} (b : Bool) (E : L2.ExcC X.K C) (hz : L2N.Zn (.ref C) d oe) (hf : ∃ vs, oe.data = .fields vs) (hh : Held c i y C [f] a d) (hk : PySem.W.kitOne X.K (.ref C) (.ref T) = some b) (hm : X.mg "isinstance" = none) (hm2 : X.mg x2 = some (.ref T)) (ho : own[i]? = some .r := by rfl)
    (hN : X.N[i]? = some n := by rfl) (hv : Vis X.env.scope n := by first | exact Or.inl rfl | exact Or.inr (Or.inl rfl) | exact Or.inr (Or.inr rfl))
    (hd : (n == ("__debug__" : Str)) = false := by decide) (hcd : (n == ("__classdict__" : Str)) = false := by decide)
    (hg : Gl X "isinstance" := by rfl) (hg2 : Gl X x2 := by rfl) (hd2 : (x2 == ("__debug__" : Str)) = false := by decide)
    (he : starEach (.Name n p2 :: [.Name x2 p3]) X.env = (false, eval (.Name n p2) X.env) :: starEach [.Name x2 p3] X.env := by rfl) (hpl : (backTo pos (starEach [.Name x2 p3] X.env)).any (·.1) = false := by rfl) (he2 : starEach [Expr.Name x2 p3] X.env = (false, eval (.Name x2 p3) X.env) :: starEach [] X.env := by rfl) :
    EX (X.suite a ((a, oe) :: pn)) c own m W (.Call (.Name "isinstance" p) [.Name n p2, .Name x2 p3] [] pos) (eIsX i y b) := by
  obtain ⟨l0, vs0, _, _, _, hd6⟩ := id hh.r0
  rcases hd6 with hd6 | ⟨dd, rfl, _, _⟩
  · cases hd6
  · refine PE.weak (pe_callB (X := X.suite a ((a, oe) :: pn)) (call_isX E hz hf) hg hm (by decide +kernel) (pa_cons (L2.pe_var (X := X.suite a ((a, oe) :: pn)) hN hv hd hcd) (pa_cons (pe_glob (X := X.suite a ((a, oe) :: pn)) (v := .ref T) hg2 hm2 rfl hd2) pa_nil he2) he) (by decide) (by decide) he hpl) ?_
    rintro σ H Q ⟨Z, ρ, φ, R, h⟩
    unfold eIsX at h
    split at h
    · rename_i x l hi
      have h' : Post c m W (if x = y then .ok (.bl b) φ else .bad) σ Z H Q := h
      by_cases e : x = y
      · subst e
        rw [if_pos rfl] at h'
        obtain ⟨h1, vs, h2, h3, h4⟩ := held_at hh ho R hi
        rcases h4 with h4 | ⟨dd', e1, e2⟩
        · cases h4
        · cases e1
          exact ⟨.ref a, h1, T, b, _, rfl, e2, hk, h' (.bl b) Z H .refl R.wf (Res.of_flat (.bl b) rfl)⟩
      · rw [if_neg e] at h'
        exact h'.elim
    · exact h.elim
end

/-! ## a def that is called within a suite -/
structure CalH (P : Program) (w : World) (K : PySem.W.Frag) (mg : Str → Option Value) (base : Heap) (cls : Str → Option (Addr × List Str)) (x : Str) (k : Nat) (pm : List Bool) (m : Md) (F : Fn) : Prop where
  ex : ∃ (f : Addr) (fd : FuncData) (ps : List Str), mg x = some (.ref f) ∧ PySem.W.keepIn K (.ref f) = true ∧ Binds K fd ps [] ∧ L2H.FnH P w K mg base (L2N.CX P w) k f fd ps (spF cls K pm m F)
def eCallH (F : Fn) (A : SA) : SX := fun ρ φ => match A ρ φ with
  | .ok ds φ1 => (match F ds φ1 with
    | .ok d φ2 => .ok d φ2
    | _ => .bad)
  | .ex y l φ1 => .ex y l φ1
  | .bad => .bad
theorem hot_of {X : Cx} {a : Addr} {oe : Obj} {cls : Value} {d : Option Addr} {pn : List (Addr × Obj)} (hz : L2N.Zn cls d oe) (hf : ∃ vs, oe.data = .fields vs) : L2H.HotC (X.suite a ((a, oe) :: pn)) := by
  obtain ⟨vs, hv⟩ := hf
  exact ⟨(a, oe), ⟨rfl, vs, hv, hz.2.2 vs hv⟩, List.mem_cons_self⟩
section
variable {X : Cx} {c : Ct} {own : List Ms} {m : Md} {W : WX} {pos p : Pos} {x : Str} {k : Nat} {pm : List Bool} {F : Fn}
theorem x_callH {e : Expr} {es : List Expr} {A : SA} (hK : X.K = c.K) (C : CalH X.prog X.w X.K X.mg X.base c.cls x k pm m F) (hr : L2H.RoomH k X.A) (hc : L2H.HotC X) (ha : AXM X c own pm W (e :: es) A)
    (hg : Gl X x := by rfl) (hdb : (x == ("__debug__" : Str)) = false := by decide)
    (he : starEach (e :: es) X.env = (false, eval e X.env) :: starEach es X.env := by rfl) (hpl : (backTo pos (starEach es X.env)).any (·.1) = false := by rfl) : EX X c own m W (.Call (.Name x p) (e :: es) [] pos) (eCallH F A) := by
  obtain ⟨f, fd, ps, h1, h2, h3, h4⟩ := C.ex
  refine PE.weak (L2H.pe_callH (E := fun _ => E0) h4 hr hc hg h1 h2 h3 (fun σ _ _ _ _ _ _ z => by obtain ⟨_, _, _, _, _, _, _, _, _, _, _, _, z⟩ := z; exact z.elim) ha hdb he hpl) ?_
  rintro σ H Q ⟨Z, ρ, φ, R, h⟩
  refine ⟨Z, ρ, φ, R, ?_⟩
  unfold eCallH at h
  cases hA : A ρ φ with
  | bad => rw [hA] at h; exact h.elim
  | ex y l φ1 => rw [hA] at h; exact h
  | ok ds φ1 =>
    rw [hA] at h
    intro vs Z1 H1 e1 w1 r1
    show spF c.cls X.K pm m F vs H1 Q E0
    refine ⟨c.f, Z1, ds, φ1, by rw [hK]; exact w1, by rw [hK]; exact r1, ?_⟩
    rw [hK]
    cases hF : F ds φ1 with
    | ok d φ2 =>
      simp only [hF] at h
      exact fun v Z' H' e' w' r' => h v Z' H' (e1.trans e') w' (r'.start e1.k)
    | ex _ _ _ => simp only [hF] at h; exact h.elim
    | bad => simp only [hF] at h; exact h.elim
end
section
variable {P : Program} {w : World} {K : PySem.W.Frag} {mg : Str → Option Value} {base : Heap}
theorem fnH_sem {cls : Str → Option (Addr × List Str)} {x qual : Str} {st : Stmt} {f : Addr} {fd : FuncData} {N ps : List Str} {k : Nat} (F : Fun K x qual st f fd) (S : FnScope N ps (defScope st)) (pm : List Bool) (hpm : pm.length = ps.length) (m : Md) (B : SS) {on : List Ms}
    (D : ∀ (cdv : Value) (A : Around) (outer : List Env) (s : Shared) (H : Hp) (E : XK) (q : Addr × Obj) (cf : Addr) (cZ cH : Hp) (s0 : L2.St) (r0 : En), L2H.Hot1 A q → L2H.RoomH k (A.deeper (envOfC qual (defScope st) s.heap.objs.size f cdv)) →
      SJs (L2H.cxH (L2N.CX P w) P w K mg base N qual (defScope st) f cdv A outer s H E q) ⟨K, cf, cZ, cH, cls, s0, r0⟩ ⟨m, fun cls d _ H => E cls d H, fun _ => True, []⟩ (ownS pm N.length) on (defBody st) B) :
    L2H.FnH P w K mg base (L2N.CX P w) (k + 1) f fd ps (spF cls K pm m (runB B ps.length N.length)) := by
  obtain ⟨_, _, _, _, _, _, cdv, _, _, rfl, lk, hcd⟩ := F.ex
  refine L2H.fn_ofH lk hcd S (fun vs H Q E h => ?_) (fun A outer s H vs Q E q hot hr h => ?_)
  · obtain ⟨f, Z, ds, φ, _, rs, _⟩ := h
    rw [rs.lens.1, hpm]
  · obtain ⟨f, Z, ds, φ, wf, rs, h⟩ := h
    have hl : ds.length = ps.length := by rw [rs.lens.2, hpm]
    have hv : vs.length = ps.length := by rw [rs.lens.1, hpm]
    have hst : L2.start N vs = vs.map some ++ List.replicate (N.length - ps.length) none := by
      unfold L2.start
      rw [hv]
    refine ⟨_, D cdv A outer s H E q f Z H (L2.start N vs) (ds.map some ++ List.replicate (N.length - ps.length) none) hot hr, Z, ds.map some ++ List.replicate (N.length - ps.length) none, φ, ⟨wf, Ext.refl, ?_, fun i d h1 _ h3 => ?_, fun i d _ h2 => absurd h2 ownS_no, fun i j a d e _ h1 => absurd h1 ownS_no, fun i d h1 h2 => ⟨h1, rfl⟩, fun i d h1 h2 => ?_⟩, ?_⟩
    · rw [hst]
      simp only [List.length_append, List.length_map, List.length_replicate]
      rw [hv, hl]
    · rw [hst]
      obtain ⟨b, v, e1, e2, r⟩ := args_start rs h1
      refine ⟨v, e2, ?_⟩
      cases b with
      | false => exact r
      | true =>
        refine absurd ?_ h3
        unfold ownS
        rw [List.getElem?_append_left (by rw [List.length_map]; exact (List.getElem?_eq_some_iff.mp e1).1), List.getElem?_map, e1]
        rfl
    · rw [hst]
      obtain ⟨b, v, e1, e2, r⟩ := args_start rs h1
      refine ⟨v, e2, ?_⟩
      cases b with
      | false => exact .inl r
      | true => exact r
    · unfold runB at h
      cases e : B (ds.map some ++ List.replicate (N.length - ps.length) none) φ with
      | nx ρ φ' => rw [e] at h; exact fun σ Z' H' _ R0 => h .non Z' H' R0.ext R0.wf (Res.of_flat .non rfl)
      | rt d φ' => rw [e] at h; exact fun v Z' H' e' w' r => h v Z' H' e' w' r
      | ex y l ρ φ' => rw [e] at h; exact fun cl dx σ Z' H' ow _ R0 r => h cl dx Z' H' R0.ext R0.wf r
      | bk ρ φ' => rw [e] at h; exact h.elim
      | ct ρ φ' => rw [e] at h; exact h.elim
      | bad => rw [e] at h; exact h.elim
theorem calH_of {cls : Str → Option (Addr × List Str)} {x : Str} {k : Nat} {pm : List Bool} {m : Md} {F : Fn} {f : Addr} {fd : FuncData} {ps : List Str} (h1 : mg x = some (.ref f)) (h2 : PySem.W.keepIn K (.ref f) = true) (h3 : Binds K fd ps []) (h4 : L2H.FnH P w K mg base (L2N.CX P w) k f fd ps (spF cls K pm m F)) :
    CalH P w K mg base cls x k pm m F := ⟨⟨f, fd, ps, h1, h2, h3, h4⟩⟩
end
end Pf

set_option Elab.async false
set_option linter.all false
set_option maxRecDepth 100000
set_option maxHeartbeats 4000000
namespace Pf
open PySem PySem.Spec PyProof.Rows L2
/-! ## sorted(d.items()), keys that are ints or texts -/
def rSortI (K : PySem.W.Frag) : V → Hp → VK → Prop := fun x H Q => ∃ (a : Addr) (kvs : List (Key × V)), x = V.ref a ∧ H a = some (.dK kvs) ∧
  ∀ (as : List Addr) (H1 : Hp), as.length = kvs.length → (∀ b ∈ as, H b = none) → (∀ b o, H b = some o → H1 b = some o) → (∀ (j : Nat) b kv, as[j]? = some b → kvs[j]? = some kv → H1 b = some (.tup [kV kv.1, kv.2])) →
    ∃ ps : List (V × PyData), as.map V.ref = ps.map Prod.fst ∧ (∀ p ∈ ps, Dp K H1 p.1 p.2) ∧ (∀ p ∈ ps, ∀ q ∈ ps, PySem.W.alike p.2 q.2 = true) ∧ (∀ p ∈ ps, SeqAt.shaped p.2 = true) ∧ PySem.W.Sortable (ps.map Prod.snd) ∧
      ∀ p, H1 p = none → Q (.ref p) (upd H1 p (.lst ((ps.mergeSort leP).map Prod.fst)))
theorem pairs_get {prog : Program} {w : World} : ∀ {es : List DictEntry} {vs : List (Key × Value)} {kvs : List (Key × V)}, Pairs (mixKind prog w) es vs → KV kvs vs → ∀ {j : Nat} {e : DictEntry}, es[j]? = some e → ∃ kv, kvs[j]? = some kv ∧ RelV (kV kv.1) e.key ∧ RelV kv.2 e.val
  | _, _, _, .nil, _, j, e, h => by simp at h
  | _, _, _, .cons hk hv hp, .cons hr hs, 0, e, h => by
    cases h
    obtain ⟨h1, h2⟩ := hr
    refine ⟨_, rfl, ?_, ?_⟩
    · rw [h1]
      exact relV_key hk
    · rw [hv]
      exact h2
  | _, _, _, .cons _ _ hp, .cons _ hs, j + 1, e, h => pairs_get hp hs (j := j) (by simpa using h)
theorem pairs_len {prog : Program} {w : World} : ∀ {es : List DictEntry} {vs : List (Key × Value)}, Pairs (mixKind prog w) es vs → es.length = vs.length
  | _, _, .nil => rfl
  | _, _, .cons _ _ hp => by simp [pairs_len hp]
section
variable {X : Cx} {o : Expr} {p pos apos mpos : Pos} {td : TE}
theorem pe_sortItems (hc : X.calm = true) (hu : X.A.units + 66 < cLine) (hg : Gl X "sorted") (hm : X.mg "sorted" = none) (hd : PE X o td) (hbase : attributeBase o "items" X.env (eval o X.env) = eval o X.env := by rfl) (hline : (apos.endLine == mpos.line) = true := by rfl)
    (hse : starEach [Expr.Call (.Attribute o "items" apos) [] [] mpos] X.env = [(false, eval (Expr.Call (.Attribute o "items" apos) [] [] mpos) X.env)] := by rfl) :
    PE X (.Call (.Name "sorted" p) [.Call (.Attribute o "items" apos) [] [] mpos] [] pos) (fun σ H Q => td σ H fun x H1 => rSortI X.K x H1 Q) := by
  refine ⟨fun pins s σ H Q I h => ?_⟩
  refine wpAny_Call_Name_kw (ld_blt I hg hm (u := .builtin "sorted") (by first | rfl | decide +kernel) ?_ (by first | decide +kernel | decide) (by first | decide +kernel | decide))
  rw [hse]
  refine PySem.callWith_builtin1 (wpAny_Call_method0_late hbase hline (thn (hd.run pins s σ H _ I h) fun v s1 ⟨x, H1, I1, r1, a, kvs, ex, ha, q⟩ => ?_))
  subst ex
  obtain rfl : v = Value.ref a := r1
  obtain ⟨z, hsys, vs, kv, o', es, ep, ho, hx, hdat, hks, hpr, _⟩ := dk_of I1.hok ha
  refine ⟨"dict", "dict.items", F.plainAttrs_dict, F.slot_dict_items, F.type_dict_items, ⟨o', ho, hx.1⟩, fun b e => ?_, Calls.callWith_builtin rfl (PySem.evalArgs_none ?_)⟩
  · cases e
    exact ⟨o', ho, hx.2.1⟩
  have hraw : DT.Raw s1.heap a es ep := ⟨o', ho, hx, hdat⟩
  refine call_meetsIn F.slot_dict_items ⟨o', ho, hx.1⟩ F.entry_dict_items (F.args_dict_items_1 _) (DT.meetsItems hsys) ⟨hraw, ?_⟩
  have k1 : ∀ b u, s1.heap.get? b = some u → (s1.heap.push { cls := .type "dict_items", data := .fields #[.ref a] }).get? b = some u := fun b u e => Heap.get?_push_of_some _ e
  have l1 : kvs.length = vs.length := Paired.length kv
  have l2 : es.size = vs.length := by rw [← Array.length_toList]; exact pairs_len hpr
  refine DT.sortedI (es := es) (ep := ep) (I1.ok.hd hc) ⟨_, Heap.get?_push_size _ rfl, rfl, rfl⟩ (hraw.push _) (by omega) fun h' tk as hk hlt hl hG => ?_
  have lak : as.length = kvs.length := by omega
  have nd : as.Nodup := List.Pairwise.imp (fun h => Nat.ne_of_lt h) hG.rise
  have kk : ∀ b o, s1.heap.get? b = some o → h'.get? b = some o := fun b o e => hk b o (k1 b o e)
  have big : ∀ b ∈ as, s1.heap.objs.size ≤ b := fun b hb => by
    have h1 : (s1.heap.push { cls := .type "dict_items", data := .fields #[.ref a] }).objs.size < b := hG.above b hb
    have h2 : (s1.heap.push { cls := .type "dict_items", data := .fields #[.ref a] }).objs.size = s1.heap.objs.size + 1 := Heap.size_push _ _
    rw [h2] at h1
    omega
  have pr : ∀ (j : Nat) (b : Addr), as[j]? = some b → ∃ kv0, kvs[j]? = some kv0 ∧ ∀ H2, ObjOk X.prog X.w H2 h' b (.tup [kV kv0.1, kv0.2]) := by
    intro j b hj
    obtain ⟨en, he, hgt⟩ := hG.pairs j b hj
    obtain ⟨kv0, e1, e2, e3⟩ := pairs_get hpr kv (j := j) (e := en) (by rw [Array.getElem?_toList]; exact he)
    exact ⟨kv0, e1, fun H2 => ⟨(by rw [sizeLine_eq]; show 2 ≤ 16777216; omega), [en.key, en.val], .cons e2 (.cons e3 .nil), ⟨_, hgt, rfl, 0, rfl⟩⟩⟩
  have I2 : Inv X pins σ H1 { s1 with heap := h', toks := tk } := I1.kept (t' := tk) kk
  obtain ⟨H2, I3, g, qt⟩ := L2.DX.takeT (P := fun b us => ∃ (j : Nat) (kv0 : Key × V), as[j]? = some b ∧ kvs[j]? = some kv0 ∧ us = [kV kv0.1, kv0.2]) I1 as H1 I2 nd fun b hb => by
    obtain ⟨j, hj⟩ := List.mem_iff_getElem?.mp hb
    obtain ⟨kv0, e1, ok⟩ := pr j b hj
    exact ⟨big b hb, I1.hok.fresh (big b hb), _, ⟨j, kv0, hj, e1, rfl⟩, ok⟩
  obtain ⟨ps, q1, q2, q3, q4, q5, q6⟩ := q as H2 lak (fun b hb => I1.hok.fresh (big b hb)) g fun j b kv0 hj hk0 => by
    obtain ⟨us, ⟨i, kv1, i1, i2, rfl⟩, e⟩ := qt b (List.mem_of_getElem? hj)
    have eij : j = i := (List.getElem?_inj (List.getElem?_eq_some_iff.mp hj).1 nd).mp (hj.trans i1.symm)
    subst eij
    rw [hk0] at i2
    cases i2
    exact e
  obtain ⟨its, hits⟩ : ∃ its, its = as.map Value.ref := ⟨_, rfl⟩
  have lits : its.length = kvs.length := by rw [hits, List.length_map, lak]
  have rv : Vals (ps.map Prod.fst) its := by
    rw [← q1, hits]
    exact vals_maps V.ref Value.ref as fun _ _ => rfl
  have e0 : PySem.W.EachIs (fun v (b : V × PyData) => RelV b.1 v) its ps := vals_each rv
  have old : ∀ b o, h'.get? b = some o → b ≠ h'.objs.size ∧ (h'.push (seqObj "list" its.toArray 0)).get? b = some o := fun b o e => ⟨Nat.ne_of_lt (Heap.lt_size e), Heap.get?_push_of_some _ e⟩
  have keep : ∀ b o, h'.get? b = some o → (PySem.W.sortingHeap (h'.push (seqObj "list" its.toArray 0)) h'.objs.size its).get? b = some o := fun b o e => PySem.W.sortingHeap_old (old b o e).1 (old b o e).2
  have e1 : PySem.W.EachIs (fun v (b : V × PyData) => RelV b.1 v ∧ ∃ as, Reads (PySem.W.sortingHeap (h'.push (seqObj "list" its.toArray 0)) h'.objs.size its) v b.2 as) its ps :=
    each_mono e0 fun v b hb rb => by
      obtain ⟨as, ra⟩ := Dp.reads I3 b.2 b.1 v (q2 b hb) rb
      exact ⟨rb, as, PyProof.Rows.Reads.keeps keep ra⟩
  have e2 := each_map (R := fun v d => ∃ as, Reads (PySem.W.sortingHeap (h'.push (seqObj "list" its.toArray 0)) h'.objs.size its) v d as) Prod.snd (each_mono e1 fun _ _ _ q => q.2)
  have hAll : PySem.W.AllAlike (ps.map Prod.snd) := fun d h1 d' h2 => by
    obtain ⟨p, hp, rfl⟩ := List.mem_map.mp h1
    obtain ⟨p', hp', rfl⟩ := List.mem_map.mp h2
    exact q3 p hp p' hp'
  have S := PySem.W.SortsAt.data (prog := X.prog) (w := X.w) (A := X.A.in1.in1) (s := { s1 with heap := PySem.W.sortingHeap (h'.push (seqObj "list" its.toArray 0)) h'.objs.size its, toks := tk }) e2 hAll q5 fun d h1 => by
    obtain ⟨p, hp, rfl⟩ := List.mem_map.mp h1
    have := SeqAt.depth_of_shaped (q4 p hp)
    show X.A.units + 1 + 1 + _ < cLine
    omega
  have ho2 : (h'.push (seqObj "list" its.toArray 0)).get? h'.objs.size = some (seqObj "list" its.toArray 0) := Heap.get?_push_size _ rfl
  obtain ⟨en, he'⟩ := sortedHeap_at (out := (PySem.W.sortVals (PySem.W.dataKind (PySem.W.sortingHeap (h'.push (seqObj "list" its.toArray 0)) h'.objs.size its) (ps.map Prod.snd)) false its its).toArray) ho2
  have kk2 : PySem.W.EachIs (fun v (b : V × PyData) => (PySem.W.dataKind (PySem.W.sortingHeap (h'.push (seqObj "list" its.toArray 0)) h'.objs.size its) (ps.map Prod.snd)).keyOf v = some (PySem.W.keyToks b.2)) its ps :=
    each_mono e1 fun v b hb ⟨_, as, ra⟩ => PySem.W.dataKind_some hAll (List.mem_map.mpr ⟨b, hb, rfl⟩) ra
  have out := PySem.W.sortVals_each (κ := PySem.W.dataKind (PySem.W.sortingHeap (h'.push (seqObj "list" its.toArray 0)) h'.objs.size its) (ps.map Prod.snd)) (rev := false) (fun b : V × PyData => PySem.W.keyToks b.2) e0 kk2
  have hle : PySem.W.sortLe (listOrd itemOrd) false (fun b : V × PyData => PySem.W.keyToks b.2) = leP := rfl
  have out' : Vals ((ps.mergeSort leP).map Prod.fst) (PySem.W.sortVals (PySem.W.dataKind (PySem.W.sortingHeap (h'.push (seqObj "list" its.toArray 0)) h'.objs.size its) (ps.map Prod.snd)) false its its) := each_vals out
  have hlen : ((ps.mergeSort leP).map Prod.fst).length ≤ sizeLine := by
    rw [List.length_map, (List.mergeSort_perm _ _).length_eq]
    have := rv.length
    rw [List.length_map] at this
    omega
  rw [← hits]
  show wpAny _ _ _ _ _ { s1 with heap := h'.push (seqObj "list" its.toArray 0), toks := tk }
  refine wpAny_call_entry PyProof.Rows.slot_list_sort ⟨_, ho2, rfl⟩ PyProof.Rows.entry_list_sort ?body (PyProof.Rows.args_list_sort _)
  case body =>
    refine PySem.W.list_sort_vals (s := { s1 with heap := h'.push (seqObj "list" its.toArray 0), toks := tk }) ho2 S (by omega) ⟨_, rfl, ?_⟩
    exact ⟨.ref _, upd H2 h'.objs.size (.lst ((ps.mergeSort leP).map Prod.fst)), I3.laid (t' := tk) (fun b o e => sortedHeap_old (old b o e).1 (Heap.lt_size (old b o e).2) |>.trans (old b o e).2) (Nat.le_refl _) ⟨hlen, _, en, out', he'⟩, rfl, q6 _ (I3.hok.fresh (Nat.le_refl _))⟩
end
end Pf

set_option Elab.async false
set_option linter.all false
set_option maxRecDepth 100000
set_option maxHeartbeats 4000000
namespace Pf
open PySem PySem.Spec PyProof.Rows L2
def kD : Key → D
  | .inl i => .int i
  | .inr x => .str x
def itmD (kv : Key × D) : D := .tup [kD kv.1, kv.2]
noncomputable def eSortI (A : SX) : SX := fun ρ φ => (A ρ φ).bind fun d φ1 => match d with
  | .dk l => ofO (gSorted [.lst (l.map itmD)]) φ1
  | _ => .bad
theorem rep_key {K : PySem.W.Frag} {f : Addr} {Z : Hp} : ∀ k : Key, Rep K f Z (kV k) (kD k)
  | .inl i => .int i
  | .inr x => .str x
/-- the heap grew: its tuples are frozen -/
theorem Wf.grow {K : PySem.W.Frag} {f : Addr} {Z H H2 : Hp} {φ : Fd} (w : Wf K f Z H φ) (hs : ∀ x o, H x = some o → H2 x = some o) : ∃ Z2, Ext f Z H Z2 H2 ∧ Wf K f Z2 H2 φ := by
  obtain ⟨Z2, hZ2⟩ : ∃ Z2 : Hp, Z2 = fun x => match Z x with
      | some o => some o
      | none => match H2 x with
        | some (.tup xs) => some (.tup xs)
        | _ => none := ⟨_, rfl⟩
  have z1 : ∀ x o, Z x = some o → Z2 x = some o := fun x o q => by rw [hZ2]; simp only [q]
  have z2 : ∀ x xs, H2 x = some (.tup xs) → Z2 x = some (.tup xs) := fun x xs q => by
    rw [hZ2]
    cases e : Z x with
    | none => simp only [q]; rw [e]
    | some o =>
      have := hs _ _ (w.sub _ _ e)
      rw [q] at this
      cases this
      simp only; rw [e]
  have z3 : ∀ x o, Z2 x = some o → H2 x = some o := fun x o q => by
    rw [hZ2] at q
    cases e : Z x with
    | none =>
      simp only [e] at q
      split at q
      · rename_i hx; cases q; exact hx
      · cases q
    | some u =>
      simp only [e] at q
      cases q
      exact hs _ _ (w.sub _ _ e)
  have z4 : ∀ x u, H x = some u → Z x = none → Z2 x = none := fun x u h q => by
    rw [hZ2]
    simp only [q, hs _ _ h]
    cases u with
    | tup xs => rw [w.tt _ _ h] at q; cases q
    | _ => rfl
  refine ⟨Z2, ⟨z1, fun x o _ q => hs x o q, fun x hx => ?_, fun x hx q => ?_, fun o q => ⟨o, hs _ _ q, .inl rfl⟩⟩, ⟨z3, ?_, ?_, w.ok, z2⟩⟩
  · cases e : H x with
    | none => exact absurd e hx
    | some u => rw [hs x u e]; simp
  · cases e : H x with
    | none => exact absurd e hx
    | some u => exact z4 x u e q
  · obtain ⟨s, q1, q2⟩ := w.feed
    exact z4 f _ q2 w.zf
  · obtain ⟨s, q1, q2⟩ := w.feed
    exact ⟨s, q1.mono z1, hs _ _ q2⟩
theorem reps_items {K : PySem.W.Frag} {f : Addr} {Z Z2 : Hp} (hz : ∀ a o, Z a = some o → Z2 a = some o) : ∀ {as : List Addr} {kvs : List (Key × V)} {l : List (Key × D)}, KReps K f Z kvs l → as.length = kvs.length → (∀ (j : Nat) b kv, as[j]? = some b → kvs[j]? = some kv → Z2 b = some (.tup [kV kv.1, kv.2])) → Reps K f Z2 (as.map V.ref) (l.map itmD)
  | [], _, _, .nil, _, _ => .nil
  | _ :: _, _, _, .nil, h, _ => by cases h
  | [], _, _, .cons _ _, h, _ => by cases h
  | b :: as, _, _, .cons (k := k) (v := v) r rs, hl, h =>
    .cons (.tup (h 0 b (k, v) rfl rfl) (.cons (rep_key k) (.cons (r.mono hz) .nil))) (reps_items hz rs (Nat.succ.inj hl) fun j c kv h1 h2 => h (j + 1) c kv h1 h2)
section
variable {X : Cx} {c : Ct} {own : List Ms} {W : WX} {pos p apos mpos : Pos} {a : Expr} {A : SX}
theorem x_sortI (hK : X.K = c.K) (hc : X.calm = true) (hu : X.A.units + 66 < cLine) (hm : X.mg "sorted" = none) (ha : EX X c own .p W a A) (hg : Gl X "sorted" := by rfl) (hbase : attributeBase a "items" X.env (eval a X.env) = eval a X.env := by rfl) (hline : (apos.endLine == mpos.line) = true := by rfl)
    (hse : starEach [Expr.Call (.Attribute a "items" apos) [] [] mpos] X.env = [(false, eval (Expr.Call (.Attribute a "items" apos) [] [] mpos) X.env)] := by rfl) :
    EX X c own .o W (.Call (.Name "sorted" p) [.Call (.Attribute a "items" apos) [] [] mpos] [] pos) (eSortI A) := by
  refine PE.weak (pe_sortItems hc hu hg hm ha hbase hline hse) ?_
  rintro σ H Q ⟨Z, ρ, φ, R, h⟩
  refine ⟨Z, ρ, φ, R, Post.bindE h fun d φ1 x Z1 H1 e1 w1 r1 h1 => ?_⟩
  cases d with
  | dk l =>
    obtain ⟨b, kvs, rfl, hb, rk⟩ := (show Res .p c.K c.f H1 Z1 H1 x (.dk l) from r1).dk w1
    obtain ⟨z, hz, h3⟩ := ofO_ok (E := fun o => Post c .o W o σ Z1 H1 Q) h1 fun z => z
    have hg' : (if okSort (l.map itmD) then some (D.lst (sortD (l.map itmD))) else none) = some z := hz
    obtain ⟨ok, rfl⟩ := ifs hg'
    rw [hK]
    refine ⟨b, kvs, rfl, hb, fun as H2 hl hn hs ht => ?_⟩
    obtain ⟨Z2, e2, w2⟩ := w1.grow (H2 := H2) hs
    exact sorted_coreV w2 (reps_items e2.z rk hl fun j c' kv h1 h2 => w2.tt _ _ (ht j c' kv h1 h2)) ok (h3.shift e2)
  | _ => exact h1.elim
end
end Pf
namespace Pf
open PySem PySem.Spec PyProof.Rows L2
theorem roomMark {k : Nat} {A : Around} (r : Room k A) (h : Option Value) : L2H.RoomH k (A.mark h) := ⟨r.dp, r.un⟩
end Pf

set_option Elab.async false
set_option linter.all false
set_option maxRecDepth 100000
set_option maxHeartbeats 4000000
namespace Pf
open PySem PySem.Spec PyProof.Rows L2

/-! ## l.pop(e), l an own list -/
def popD (l : List D) : D → Option (D × List D)
  | .int z => if -9223372036854775808 ≤ z ∧ z < 9223372036854775808 then (match seqIndex? z l.length with
    | some j => (l[j]?).map fun y => (y, l.eraseIdx j)
    | none => none) else none
  | _ => none
theorem popD_some {l l' : List D} {e y : D} (h : popD l e = some (y, l')) : ∃ z j, e = .int z ∧ -(2 ^ 63) ≤ z ∧ z < 2 ^ 63 ∧ seqIndex? z l.length = some j ∧ l[j]? = some y ∧ l' = l.eraseIdx j := by
  unfold popD at h
  split at h
  · rename_i z
    split at h
    · rename_i hz
      split at h
      · rename_i j hj
        obtain ⟨y', h1, h2⟩ := Option.map_eq_some_iff.mp h
        cases h2
        exact ⟨z, j, rfl, by omega, by omega, hj, h1, rfl⟩
      · cases h
    · cases h
  · cases h
/-- y = l.pop(e) -/
def sPopS (i j : Nat) (A : SX) : SS := fun ρ φ => match ρ[i]? with
  | some (some (.lst l)) => (A ρ φ).toR ρ fun e φ1 => (match popD l e with | some (y, l') => .nx ((ρ.set i (some (.lst l'))).set j (some y)) φ1 | none => .bad)
  | _ => .bad
/-- y.append(l.pop(e)) -/
def sPopA (i j : Nat) (A : SX) : SS := fun ρ φ => match ρ[i]?, ρ[j]? with
  | some (some (.lst m)), some (some (.lst l)) => (A ρ φ).toR ρ fun e φ1 => (match popD l e with | some (y, l') => if m.length < sizeLine then .nx ((ρ.set j (some (.lst l'))).set i (some (.lst (m ++ [y])))) φ1 else .bad | none => .bad)
  | _, _ => .bad
section
variable {X : Cx} {c : Ct} {w : Ow} {own : List Ms}
theorem s_popS (i j : Nat) {x y : Str} {e : Expr} {A : SX} {p py apos cpos pos2 : Pos} (hNd : X.N.Nodup) (ha : EX X c own .p w.W e A) (hw : own[i]? = some .o := by rfl) (hN : X.N[i]? = some x := by rfl) (hNj : X.N[j]? = some y := by rfl) (hv : Vis X.env.scope x := by first | exact Or.inl rfl | exact Or.inr (Or.inl rfl) | exact Or.inr (Or.inr rfl))
    (hy : Loc X.env.scope y := by first | exact Or.inl rfl | exact Or.inr rfl)
    (hd : (x == ("__debug__" : Str)) = false := by decide) (hcd : (x == ("__classdict__" : Str)) = false := by decide)
    (hbase : attributeBase (.Name x p) "pop" X.env (eval (.Name x p) X.env) = eval (.Name x p) X.env := by rfl)
    (hfew : ((backTo cpos (starEach [e] X.env)).all (fun x => !x.1) && (backToKw cpos (keywordEach [] X.env)).all (fun x => x.1.isSome) && decide ([e].length + ([] : List Keyword).length + (if ([] : List Keyword).isEmpty then 0 else 1) < 30)) = true := by rfl)
    (hline : (apos.endLine == cpos.line) = true := by rfl) (hse : starEach [e] X.env = (false, eval e X.env) :: starEach [] X.env := by rfl) (hplain : (backTo cpos (starEach [] X.env)).any (·.1) = false := by rfl)
    (hs : swapsWith (.Call (.Attribute (.Name x p) "pop" apos) [e] [] cpos) (some (.Name y py)) pos2.line X.env = pure false := by rfl) (hf : X.fn y = true ∨ X.env.scope.names.lookup y = some .local := by first | exact .inl rfl | exact .inr rfl) (ho : w.ox own := by first | exact trivial | rfl) :
    SJ X c w own (own.set j .s) (.Assign [.Name y py] (.Call (.Attribute (.Name x p) "pop" apos) [e] [] cpos) pos2) (sPopS i j A) := by
  refine PS.weak (ps_set hNd hNj hy (pe_bm PySem.F.plainAttrs_list PySem.F.slot_list_pop PySem.F.type_list_pop mt_popAt (pe_var hN hv hd hcd) (pa_cons ha pa_nil hse) hbase hfew hline hse hplain) hs hf) ?_
  rintro Dn σ H ⟨Z, ρ, φ, R0, h⟩
  unfold sPopS at h
  split at h
  · rename_i l hdd
    obtain ⟨a, vs, hav, hH, rs, hz⟩ := R0.cell hw hdd
    refine ⟨.ref a, hav, .inl ⟨rfl, vs, .inl (.inl hH)⟩, Z, ρ, φ, R0, Post.toS (w := w) ho R0 h fun d φ1 v Z1 H1 e1 w1 r1 h1 => ?_⟩
    split at h1
    · rename_i y' l' hg
      obtain ⟨z, k, rfl, z0, z1, hk, hy', rfl⟩ := popD_some hg
      have R1 := R0.more e1 w1
      obtain ⟨b, us, hb, hH1, rs1, hz1⟩ := Rl.cell R1 hw hdd
      rw [hav] at hb
      cases hb
      obtain ⟨yv, hyv, ry⟩ := rs1.get hy'
      exact ⟨a, us, z, k, yv, rfl, by rw [r1.int], hH1, z0, z1, by rw [rs1.length]; exact hk, hyv, h1 _ Z1 _ Sub.refl ((R1.write hw hdd rfl hav (.lst (rs1.erase k))).setS ry)⟩
    · exact h1.elim
  · exact h.elim
theorem s_popA (i j : Nat) {x y : Str} {e : Expr} {A : SX} {p py apos cpos bpos dpos pos2 : Pos} (ha : EX X c own .p w.W e A) (hij : i ≠ j := by decide) (hwi : own[i]? = some .o := by rfl) (hw : own[j]? = some .o := by rfl) (hNi : X.N[i]? = some y := by rfl) (hN : X.N[j]? = some x := by rfl)
    (hv : Vis X.env.scope x := by first | exact Or.inl rfl | exact Or.inr (Or.inl rfl) | exact Or.inr (Or.inr rfl)) (hvy : Vis X.env.scope y := by first | exact Or.inl rfl | exact Or.inr (Or.inl rfl) | exact Or.inr (Or.inr rfl))
    (hd : (x == ("__debug__" : Str)) = false := by decide) (hcd : (x == ("__classdict__" : Str)) = false := by decide) (hdy : (y == ("__debug__" : Str)) = false := by decide) (hcdy : (y == ("__classdict__" : Str)) = false := by decide)
    (hbase : attributeBase (.Name x p) "pop" X.env (eval (.Name x p) X.env) = eval (.Name x p) X.env := by rfl)
    (hfew : ((backTo cpos (starEach [e] X.env)).all (fun x => !x.1) && (backToKw cpos (keywordEach [] X.env)).all (fun x => x.1.isSome) && decide ([e].length + ([] : List Keyword).length + (if ([] : List Keyword).isEmpty then 0 else 1) < 30)) = true := by rfl)
    (hline : (apos.endLine == cpos.line) = true := by rfl) (hse : starEach [e] X.env = (false, eval e X.env) :: starEach [] X.env := by rfl) (hplain : (backTo cpos (starEach [] X.env)).any (·.1) = false := by rfl)
    (hbase2 : attributeBase (.Name y py) "append" X.env (eval (.Name y py) X.env) = eval (.Name y py) X.env := by rfl)
    (hfew2 : ((backTo dpos (starEach [.Call (.Attribute (.Name x p) "pop" apos) [e] [] cpos] X.env)).all (fun x => !x.1) && (backToKw dpos (keywordEach [] X.env)).all (fun x => x.1.isSome) && decide ([Expr.Call (.Attribute (.Name x p) "pop" apos) [e] [] cpos].length + ([] : List Keyword).length + (if ([] : List Keyword).isEmpty then 0 else 1) < 30)) = true := by rfl)
    (hline2 : (bpos.endLine == dpos.line) = true := by rfl) (hse2 : starEach [.Call (.Attribute (.Name x p) "pop" apos) [e] [] cpos] X.env = (false, eval (.Call (.Attribute (.Name x p) "pop" apos) [e] [] cpos) X.env) :: starEach [] X.env := by rfl) (hplain2 : (backTo dpos (starEach [] X.env)).any (·.1) = false := by rfl)
    (hs : swapsWith (.Call (.Attribute (.Name y py) "append" bpos) [.Call (.Attribute (.Name x p) "pop" apos) [e] [] cpos] [] dpos) none pos2.line X.env = pure false := by rfl) (ho : w.ox own := by first | exact trivial | rfl) :
    SJ X c w own own (.Expr (.Call (.Attribute (.Name y py) "append" bpos) [.Call (.Attribute (.Name x p) "pop" apos) [e] [] cpos] [] dpos) pos2) (sPopA i j A) := by
  refine PS.weak (ps_expr (pe_bm PySem.F.plainAttrs_list PySem.F.slot_list_append PySem.F.type_list_append mt_append (pe_var hNi hvy hdy hcdy) (pa_cons (pe_bm PySem.F.plainAttrs_list PySem.F.slot_list_pop PySem.F.type_list_pop mt_popAt (pe_var hN hv hd hcd) (pa_cons ha pa_nil hse) hbase hfew hline hse hplain) pa_nil hse2) hbase2 hfew2 hline2 hse2 hplain2) hs) ?_
  rintro Dn σ H ⟨Z, ρ, φ, R0, h⟩
  unfold sPopA at h
  split at h
  · rename_i m l hm hdd
    obtain ⟨a, vs, hav, hH, rs, hz⟩ := R0.cell hw hdd
    obtain ⟨b, us, hbv, hHb, rb, hzb⟩ := R0.cell hwi hm
    refine ⟨.ref b, hbv, .inl ⟨rfl, us, .inl (.inl hHb)⟩, .ref a, hav, .inl ⟨rfl, vs, .inl (.inl hH)⟩, Z, ρ, φ, R0, Post.toS (w := w) ho R0 h fun d φ1 v Z1 H1 e1 w1 r1 h1 => ?_⟩
    split at h1
    · rename_i y' l' hg
      obtain ⟨z, k, rfl, z0, z1, hk, hy', rfl⟩ := popD_some hg
      have h1' : PostS c w own (if m.length < sizeLine then R.nx ((ρ.set j (some (.lst (l.eraseIdx k)))).set i (some (.lst (m ++ [y'])))) φ1 else .bad) Dn Z1 := h1
      by_cases hl : m.length < sizeLine
      · rw [if_pos hl] at h1'
        have R1 := R0.more e1 w1
        obtain ⟨a', vs1, ha', hH1, rs1, hz1⟩ := Rl.cell R1 hw hdd
        rw [hav] at ha'
        cases ha'
        obtain ⟨yv, hyv, ry⟩ := rs1.get hy'
        have R2 := R1.write hw hdd rfl hav (.lst (rs1.erase k))
        have hm2 : (ρ.set j (some (D.lst (l.eraseIdx k))))[i]? = some (some (.lst m)) := by rw [List.getElem?_set_ne (Ne.symm hij)]; exact hm
        obtain ⟨b', us2, hb', hH2, rb2, hz2⟩ := Rl.cell R2 hwi hm2
        rw [hbv] at hb'
        cases hb'
        refine ⟨a, vs1, z, k, yv, rfl, by rw [r1.int], hH1, z0, z1, by rw [rs1.length]; exact hk, hyv, ?_⟩
        exact ⟨b, us2, yv, rfl, rfl, hH2, by rw [rb2.length]; exact hl, h1' σ Z1 _ Sub.refl (R2.write hwi hm2 rfl hbv (.lst (rb2.app (.cons ry .nil))))⟩
      · rw [if_neg hl] at h1'
        exact h1'.elim
    · exact h1.elim
  · exact h.elim
end
end Pf

set_option Elab.async false
set_option linter.all false
set_option maxRecDepth 100000
set_option maxHeartbeats 4000000
namespace Pf
open PySem PySem.Spec PyProof.Rows L2

/-! ## a part of a body as a body of its own, what it makes is kept -/
def ownKeep (own own1 : List Ms) : List Ms := own.mapIdx fun i m => if Ms.pin own1[i]? = true then m else own1.getD i .s
theorem Rl.leaveK {c : Ct} {own own1 : List Ms} {Z0 Z1 : Hp} {ρ0 ρ1 : En} {φ0 φ1 : Fd} {σ0 σ1 : L2.St} {H0 H1 : Hp} (hl : own1.length = own.length) (R0 : Rl c own Z0 ρ0 φ0 σ0 H0) (R1 : Rl (subC c Z0 ρ0 σ0 H0) own1 Z1 ρ1 φ1 σ1 H1) :
    Rl c (ownKeep own own1) Z1 ρ1 φ1 σ1 H1 := by
  have ex : Ext c.f Z0 H0 Z1 H1 := R1.ext
  have RM := R0.more ex R1.wf
  have getO : ∀ {i : Nat} {x : Ms}, (ownKeep own own1)[i]? = some x → (Ms.pin own1[i]? = true ∧ own[i]? = some x) ∨ (Ms.pin own1[i]? = false ∧ own1[i]? = some x) := fun {i x} h => by
    unfold ownKeep at h
    rw [List.getElem?_mapIdx] at h
    cases e : own[i]? with
    | none => rw [e] at h; cases h
    | some y =>
      rw [e] at h
      have h' : (if Ms.pin own1[i]? = true then y else own1.getD i .s) = x := Option.some.inj h
      by_cases hp : Ms.pin own1[i]? = true
      · rw [if_pos hp] at h'; exact .inl ⟨hp, by rw [h']⟩
      · rw [if_neg hp] at h'
        refine .inr ⟨by simpa using hp, ?_⟩
        have hi : i < own1.length := by rw [hl]; exact (List.getElem?_eq_some_iff.mp e).1
        rw [List.getD_eq_getElem?_getD, List.getElem?_eq_getElem hi] at h'
        rw [List.getElem?_eq_getElem hi, ← h']
        rfl
  have putO : ∀ {i : Nat} {x : Ms}, Ms.pin own1[i]? = true → own[i]? = some x → (ownKeep own own1)[i]? = some x := fun {i x} hp h => by
    unfold ownKeep
    rw [List.getElem?_mapIdx, h]
    show some (if Ms.pin own1[i]? = true then x else own1.getD i .s) = some x
    rw [if_pos hp]
  have putN : ∀ {i : Nat} {x : Ms}, Ms.pin own1[i]? = false → own1[i]? = some x → (ownKeep own own1)[i]? = some x := fun {i x} hp h => by
    have hi : i < own.length := by rw [← hl]; exact (List.getElem?_eq_some_iff.mp h).1
    unfold ownKeep
    rw [List.getElem?_mapIdx, List.getElem?_eq_getElem hi]
    show some (if Ms.pin own1[i]? = true then own[i] else own1.getD i .s) = some x
    rw [if_neg (by rw [hp]; decide), List.getD_eq_getElem?_getD, h]
    rfl
  have pins : ∀ {i : Nat} {d : D}, Ms.pin own1[i]? = true → ρ1[i]? = some (some d) → ρ0[i]? = some (some d) ∧ σ1[i]? = σ0[i]? := fun {i d} hp h => R1.pn i d h (pin_iff.mp hp)
  have bp : ∀ (i : Nat), Ms.pin own1[i]? = true ∨ Ms.pin own1[i]? = false := fun i => by cases Ms.pin own1[i]? <;> simp
  have fresh : ∀ {v : V} {d : D}, Res .o c.K c.f H0 Z1 H1 v d → Res .o c.K c.f c.H Z1 H1 v d := fun r => r.start R0.ext.k
  refine ⟨R1.wf, R0.ext.trans ex, R1.len, fun i d h1 h2 h3 => ?_, fun i d h1 h2 => ?_, fun i j a d e hij h1 h2 h3 h4 h5 h6 h7 h8 => ?_, fun i d h1 h2 => ?_, fun i d h1 h2 => ?_⟩
  · rcases bp i with hp | hp
    · obtain ⟨k1, k2⟩ := pins hp h1
      obtain ⟨v, hv, r⟩ := RM.sh i d k1 (fun e => h2 (putO hp e)) (fun e => h3 (putO hp e))
      exact ⟨v, by rw [k2]; exact hv, r⟩
    · exact R1.sh i d h1 (fun e => h2 (putN hp e)) (fun e => by rw [e] at hp; cases hp)
  · rcases getO h2 with ⟨hp, ho⟩ | ⟨_, ho⟩
    · obtain ⟨k1, k2⟩ := pins hp h1
      obtain ⟨v, hv, r⟩ := RM.ow i d k1 ho
      exact ⟨v, by rw [k2]; exact hv, r⟩
    · obtain ⟨v, hv, r⟩ := R1.ow i d h1 ho
      exact ⟨v, hv, fresh r⟩
  · -- two own ones
    have old : ∀ {i : Nat} {d : D}, Ms.pin own1[i]? = true → own[i]? = some .o → ρ1[i]? = some (some d) → d.mt = true → ∀ a, σ1[i]? = some (some (.ref a)) → H0 a ≠ none := fun {i d} hp ho h hm a ha => by
      obtain ⟨k1, k2⟩ := pins hp h
      obtain ⟨v, hv, r⟩ := R0.ow i d k1 ho
      rw [k2, hv] at ha
      cases ha
      unfold Res at r
      rw [if_pos hm] at r
      obtain ⟨b, o, e, _, _, _, hb, _⟩ := r
      cases e
      rw [hb]
      simp
    have new : ∀ {i : Nat} {d : D}, own1[i]? = some .o → ρ1[i]? = some (some d) → d.mt = true → ∀ a, σ1[i]? = some (some (.ref a)) → H0 a = none := fun {i d} ho h hm a ha => by
      obtain ⟨v, hv, r⟩ := R1.ow i d h ho
      rw [hv] at ha
      cases ha
      unfold Res at r
      rw [if_pos hm] at r
      obtain ⟨b, o, e, hn, _⟩ := r
      cases e
      exact hn
    rcases getO h1 with ⟨hp, ho⟩ | ⟨_, ho⟩ <;> rcases getO h2 with ⟨hp', ho'⟩ | ⟨_, ho'⟩
    · obtain ⟨k1, k2⟩ := pins hp h3
      obtain ⟨k3, k4⟩ := pins hp' h5
      rw [k2] at h7
      rw [k4] at h8
      exact R0.ne i j a d e hij ho ho' k1 h4 k3 h6 h7 h8
    · exact old hp ho h3 h4 a h7 (new ho' h5 h6 a h8)
    · exact old hp' ho' h5 h6 a h8 (new ho h3 h4 a h7)
    · exact R1.ne i j a d e hij ho ho' h3 h4 h5 h6 h7 h8
  · have hh : Ms.pin own1[i]? = true ∧ (own[i]? = some .p ∨ own[i]? = some .r) := by
      rcases h2 with h2 | h2 <;> rcases getO h2 with ⟨hp, ho⟩ | ⟨hp, ho⟩
      · exact ⟨hp, .inl ho⟩
      · rw [ho] at hp; cases hp
      · exact ⟨hp, .inr ho⟩
      · rw [ho] at hp; cases hp
    obtain ⟨k1, k2⟩ := pins hh.1 h1
    obtain ⟨n1, n2⟩ := R0.pn i d k1 hh.2
    exact ⟨n1, by rw [k2]; exact n2⟩
  · rcases getO h2 with ⟨hp, ho⟩ | ⟨hp, ho⟩
    · obtain ⟨k1, k2⟩ := pins hp h1
      obtain ⟨v, hv, r⟩ := R0.pk i d k1 ho
      exact ⟨v, by rw [k2]; exact hv, r⟩
    · rw [ho] at hp; cases hp
def sKeep (A B : SS) : SS := fun ρ φ => match A ρ φ with
  | .nx ρ1 φ1 => B ρ1 φ1
  | .rt d φ1 => .rt d φ1
  | _ => .bad
section
variable {X : Cx} {c : Ct} {w : Ow} {own own1 on : List Ms}
theorem s_keep (n : Nat) {sts : List Stmt} {A B : SS} (hl : own1.length = own.length) (h1 : ∀ (Z : Hp) (ρ : En) (σ : L2.St) (H : Hp), SJs X (subC c Z ρ σ H) ⟨w.m, W0, fun _ => True, []⟩ (ownIn own) own1 (sts.take n) A) (h2 : SJs X c w (ownKeep own own1) on (sts.drop n) B) :
    SJs X c w own on sts (sKeep A B) := by
  have D1 := PSs.later (ι := Hp × En × L2.St × Hp) fun i => h1 i.1 i.2.1 i.2.2.1 i.2.2.2
  have D2 := pss_app D1 h2
  rw [List.take_append_drop] at D2
  refine PSs.weak D2 ?_
  rintro Dn σ H ⟨Z, ρ, φ, R0, h⟩
  refine ⟨(Z, ρ, σ, H), Z, ρ, φ, R0.enter, ?_⟩
  unfold sKeep at h
  cases hA : A ρ φ with
  | nx ρ1 φ1 =>
    rw [hA] at h
    intro σ1 Z1 H1 k R1
    exact ⟨Z1, ρ1, φ1, R0.leaveK hl R1, PostS.shift (show PostS c w on (B ρ1 φ1) Dn Z from h) k⟩
  | rt d φ1 =>
    rw [hA] at h
    intro v Z' H' e' w' r
    exact h v Z' H' (R0.ext.trans e') w' (Res.start r R0.ext.k)
  | bk _ _ => rw [hA] at h; exact h.elim
  | ct _ _ => rw [hA] at h; exact h.elim
  | ex _ _ _ _ => rw [hA] at h; exact h.elim
  | bad => rw [hA] at h; exact h.elim
theorem keep_nx {A B : SS} {ρ ρ1 : En} {φ φ1 : Fd} {r : R} (h1 : A ρ φ = .nx ρ1 φ1) (h2 : B ρ1 φ1 = r) : sKeep A B ρ φ = r := by unfold sKeep; rw [h1]; exact h2
theorem keep_rt {A B : SS} {ρ : En} {φ φ1 : Fd} {d : D} (h1 : A ρ φ = .rt d φ1) : sKeep A B ρ φ = .rt d φ1 := by unfold sKeep; rw [h1]
end
end Pf

set_option Elab.async false
set_option linter.all false
set_option maxRecDepth 100000
set_option maxHeartbeats 4000000
namespace Pf
open PySem PySem.Spec PyProof.Rows L2

/-! ## dicts whose keys are tuples -/
def keysD : List D → Option (List Key)
  | [] => some []
  | d :: ds => (keyD d).bind fun k => (keysD ds).map fun ks => k :: ks
def keyT : D → Option (List Key)
  | .tup l => keysD l
  | _ => none
def asT : D → Option (List (List Key × D))
  | .dt l => some l
  | .dz l => some l
  | _ => none
theorem keysD_rep {K : PySem.W.Frag} {f : Addr} {Z : Hp} : ∀ {vs : List V} {ds : List D} {ks : List Key}, Reps K f Z vs ds → keysD ds = some ks → vs = ks.map kV
  | _, _, _, .nil, h => by cases h; rfl
  | _, _, _, .cons (d := d) (ds := ds) r s, h => by
    obtain ⟨k, hk, h2⟩ := Option.bind_eq_some_iff.mp h
    obtain ⟨ls, hl, rfl⟩ := Option.map_eq_some_iff.mp h2
    rw [List.map_cons, keysD_rep s hl, keyD_rep (m := .s) (H0 := Z) (H := Z) r hk]
theorem keyT_rep {m : Md} {K : PySem.W.Frag} {f : Addr} {H0 Z H : Hp} {v : V} {d : D} {ks : List Key} (r : Res m K f H0 Z H v d) (h : keyT d = some ks) : ∃ b, v = .ref b ∧ Z b = some (.tup (ks.map kV)) := by
  cases d with
  | tup l =>
    obtain ⟨b, vs, rfl, hb, rs⟩ := r.tupT
    exact ⟨b, rfl, by rw [hb, keysD_rep rs h]⟩
  | _ => cases h
theorem asT_cell {K : PySem.W.Frag} {f : Addr} {H0 Z H : Hp} {v : V} {d : D} {φ : Fd} {l : List (List Key × D)} (r : Res .p K f H0 Z H v d) (w : Wf K f Z H φ) (h : asT d = some l) : ∃ a kvs, v = .ref a ∧ Rd H a (.dT kvs) ∧ TReps K f Z kvs l := by
  cases d with
  | dt ds => cases h; obtain ⟨a, kvs, e, ha, rk⟩ := r.dt w; exact ⟨a, kvs, e, .inl ha, rk⟩
  | dz ds => cases h; obtain ⟨a, od, kvs, e, ha, rk⟩ := r.dz; exact ⟨a, kvs, e, .inr ⟨od, w.sub _ _ ha⟩, rk⟩
  | _ => cases h
theorem getT {H : Hp} {a b : Addr} {kvs : List (List Key × V)} {k : List Key} (e : Rd H a (.dT kvs)) (eb : H b = some (.tup (k.map kV))) : DGet H a (.ref b) (valV kvs k) := .inr ⟨kvs, k, b, e, rfl, eb, rfl⟩
def eTIn (neg : Bool) (A B : SX) : SX := fun ρ φ => (A ρ φ).bind fun kd φ1 => (B ρ φ1).bind fun d φ2 => match asT d, keyT kd with
  | some l, some k => .ok (.bl (if neg = true then !(valT l k).isSome else (valT l k).isSome)) φ2
  | _, _ => .bad
def eTIx (A B : SX) : SX := fun ρ φ => (A ρ φ).bind fun d φ1 => (B ρ φ1).bind fun kd φ2 => match asT d, keyT kd with
  | some l, some k => ofO (valT l k) φ2
  | _, _ => .bad
section
variable {X : Cx} {c : Ct} {w : Ow} {own on o1 : List Ms} {m : Md} {W : WX} {pos : Pos} {A B : SX} {o k : Expr}
theorem tin_core {neg : Bool} {σ : L2.St} {H : Hp} {Q : VK} (h : tE c own m W (eTIn neg A B) σ H Q) :
    tE c own .p W A σ H fun y H1 => tE c own .p W B σ H1 fun x H2 => ∃ a o, x = V.ref a ∧ DGet H2 a y o ∧ Q (.bl (if neg = true then !o.isSome else o.isSome)) H2 := by
  obtain ⟨Z, ρ, φ, R, h⟩ := h
  refine ⟨Z, ρ, φ, R, Post.bindE h fun kd φ1 y Z1 H1 e1 w1 r1 h1 => ?_⟩
  refine ⟨Z1, ρ, φ1, R.more e1 w1, Post.bindE h1 fun d φ2 x Z2 H2 e2 w2 r2 h2 => ?_⟩
  cases hd : asT d with
  | none => simp only [hd] at h2; exact h2.elim
  | some l =>
    cases hk : keyT kd with
    | none => simp only [hd, hk] at h2; exact h2.elim
    | some key =>
      simp only [hd, hk] at h2
      obtain ⟨a, kvs, rfl, ha, rk⟩ := asT_cell r2 w2 hd
      obtain ⟨b, rfl, hb⟩ := keyT_rep r1 hk
      refine ⟨a, valV kvs key, rfl, getT ha (w2.sub _ _ (e2.z _ _ hb)), ?_⟩
      have : (valV kvs key).isSome = (valT l key).isSome := by
        cases e : valT l key with
        | none => rw [rk.miss e]; rfl
        | some z =>
          obtain ⟨u, e4, _⟩ := rk.hit e
          rw [e4]; rfl
      rw [this]
      exact h2.nowB w2
theorem x_tin (hu : X.A.units + 64 < cLine) (hk : EX X c own .p W k A) (ho : EX X c own .p W o B) (hm : behindInMarks .In o = false := by rfl) : EX X c own .o W (.Compare k [.In] [o] pos) (eTIn false A B) :=
  PE.weak (pe_cmp (pc_din (by omega) hk ho) hm) fun σ H Q h => tin_core h
theorem x_tnotin (hu : X.A.units + 64 < cLine) (hk : EX X c own .p W k A) (ho : EX X c own .p W o B) (hm : behindInMarks .NotIn o = false := by rfl) : EX X c own .o W (.Compare k [.NotIn] [o] pos) (eTIn true A B) :=
  PE.weak (pe_cmp (pc_dnotin (by omega) hk ho) hm) fun σ H Q h => tin_core h
theorem b_tcore {neg : Bool} {σ : L2.St} {H : Hp} {Q : Bool → Hp → Prop} (h : tB c own W (bVal (eTIn neg A B)) σ H Q) : tE c own .o W (eTIn neg A B) σ H fun v H' => ∃ b, v = .bl b ∧ Q b H' := by
  obtain ⟨Z, ρ, φ, R, h⟩ := h
  refine ⟨Z, ρ, φ, R, Post.bindB h fun d φ1 v Z1 H1 e1 w1 r1 h1 => ?_⟩
  cases d with
  | bl b => exact ⟨b, r1.bl, h1 Z1 H1 .refl w1⟩
  | _ => exact h1.elim
theorem b_tin (hu : X.A.units + 64 < cLine) (hk : EX X c own .p W k A) (ho : EX X c own .p W o B) (hm : behindInMarks .In o = false := by rfl) : BX X c own W (.Compare k [.In] [o] pos) (bVal (eTIn false A B)) :=
  PT.weak (pt_cmp (pc_din (by omega) hk ho) hm) fun σ H Q h => tin_core (b_tcore h)
theorem b_tnotin (hu : X.A.units + 64 < cLine) (hk : EX X c own .p W k A) (ho : EX X c own .p W o B) (hm : behindInMarks .NotIn o = false := by rfl) : BX X c own W (.Compare k [.NotIn] [o] pos) (bVal (eTIn true A B)) :=
  PT.weak (pt_cmp (pc_dnotin (by omega) hk ho) hm) fun σ H Q h => tin_core (b_tcore h)
theorem x_tix (hu : X.A.units + 64 < cLine) (ha : EX X c own .p W o A) (hb : EX X c own .p W k B) (hs : NoSl k := by exact fun _ _ => rfl) : EX X c own .s W (.Subscript o k pos) (eTIx A B) := by
  refine PE.weak (pe_dget (by omega) ha hb hs) ?_
  rintro σ H Q ⟨Z, ρ, φ, R, h⟩
  refine ⟨Z, ρ, φ, R, Post.bindE h fun d φ1 x Z1 H1 e1 w1 r1 h1 => ?_⟩
  refine ⟨Z1, ρ, φ1, R.more e1 w1, Post.bindE h1 fun kd φ2 y Z2 H2 e2 w2 r2 h2 => ?_⟩
  cases hd : asT d with
  | none => simp only [hd] at h2; exact h2.elim
  | some l =>
    cases hk : keyT kd with
    | none => simp only [hd, hk] at h2; exact h2.elim
    | some key =>
      simp only [hd, hk] at h2
      obtain ⟨a, kvs, rfl, ha2, rk⟩ := asT_cell (r1.pmono e2) w2 hd
      obtain ⟨b, rfl, hb⟩ := keyT_rep r2 hk
      obtain ⟨z, hz, h3⟩ := ofO_ok (E := fun o => Post c .s W o σ Z2 H2 Q) h2 fun z => z
      obtain ⟨v, e4, r4⟩ := rk.hit hz
      exact ⟨a, v, rfl, by rw [← e4]; exact getT ha2 (w2.sub _ _ hb), h3.now w2 r4⟩
def sPutT (i : Nat) (A B : SX) : SS := fun ρ φ => (A ρ φ).toR ρ fun d φ1 => match ρ[i]? with
  | some (some (.dt l)) => (B ρ φ1).toR ρ fun k φ2 => (match keyT k with
    | some key => if l.length < sizeLine then .nx (ρ.set i (some (.dt (putT l key d)))) φ2 else .bad
    | _ => .bad)
  | _ => .bad
theorem s_putT (i : Nat) {x : Str} {e k : Expr} {A B : SX} {p p2 : Pos} (hu : X.A.units + 64 < cLine) (ha : EX X c own .s w.W e A) (hk : EX X c own .p w.W k B) (hw : own[i]? = some .o := by rfl) (hN : X.N[i]? = some x := by rfl) (hv : Vis X.env.scope x := by first | exact Or.inl rfl | exact Or.inr (Or.inl rfl) | exact Or.inr (Or.inr rfl))
    (hd : (x == ("__debug__" : Str)) = false := by decide) (hcd : (x == ("__classdict__" : Str)) = false := by decide)
    (hst : ∀ v, assign (.Subscript (.Name x p) k p2) X.env v = (do
      let ov ← holding [v] (eval (.Name x p) X.env)
      let iv ← holding [v, ov] (eval k X.env)
      standAt p2
      holding [v, ov, iv] (setItem ov iv v)
      release [v, ov, iv] []) := by intro _; rfl)
    (hs : swapsWithSole [.Subscript (.Name x p) k p2] e pos.line X.env = pure false := by rfl) (hsw : swappedStores [.Subscript (.Name x p) k p2] e X.env = pure none := by rfl)
    (h1 : (assignEach [.Subscript (.Name x p) k p2] X.env).map (·.2) = [assign (.Subscript (.Name x p) k p2) X.env] := by rfl) (ho : w.ox own := by first | exact trivial | rfl) :
    SJ X c w own own (.Assign [.Subscript (.Name x p) k p2] e pos) (sPutT i A B) := by
  refine PS.weak (ps_asg ha (pg_sub (pe_var hN hv hd hcd) hk (set_dict (by omega)) hst) hs hsw h1) ?_
  rintro Dn σ H ⟨Z, ρ, φ, R0, h⟩
  refine ⟨Z, ρ, φ, R0, Post.toS (w := w) ho R0 h fun d φ1 v Z1 H1 e1 w1 r1 h1 => ?_⟩
  split at h1
  · rename_i l hdd
    have R1 := R0.more e1 w1
    obtain ⟨a, vs, hav, hH, rs, hz, _⟩ := R1.cellT hw hdd
    refine ⟨.ref a, hav, Z1, ρ, φ1, R1, Post.toS (w := w) ho R1 h1 fun kd φ2 kv Z2 H2 e2 w2 r2 h2 => ?_⟩
    have R2 := R1.more e2 w2
    obtain ⟨b, us, hb, hH2, rs2, hz2, _⟩ := R2.cellT hw hdd
    rw [hav] at hb
    cases hb
    cases hk : keyT kd with
    | none => simp only [hk] at h2; exact h2.elim
    | some key =>
      simp only [hk] at h2
      by_cases hl : l.length < sizeLine
      · rw [if_pos hl] at h2
        obtain ⟨q, rfl, hq⟩ := keyT_rep r2 hk
        refine ⟨a, _, rfl, DPut.t hH2 (w2.sub _ _ hq) (by rw [rs2.length]; exact hl), ?_⟩
        exact h2 σ Z2 _ Sub.refl (R2.write hw hdd rfl hav (.dt (rs2.put (Rep.mono e2.z r1))))
      · rw [if_neg hl] at h2; exact h2.elim
  · exact h1.elim

/-! ## an own dict is locked -/
theorem Rl.lockG {Z H : Hp} {ρ : En} {φ : Fd} {σ : L2.St} (R : Rl c own Z ρ φ σ H) {i : Nat} {a : Addr} {d d' : D} {o o' : HO} (ho : own[i]? = some .o) (hd : ρ[i]? = some (some d)) (hm : d.mt = true) (ha : σ[i]? = some (some (.ref a)))
    (hH : H a = some o) (hZ : Z a = none) (hf : a ≠ c.f) (h0 : c.H a = none) (nt : ∀ xs, o' ≠ .tup xs) (rp : Rep c.K c.f (upd Z a o') (.ref a) d') :
    Rl c (own.set i .s) (upd Z a o') (ρ.set i (some d')) φ σ (upd H a o') := by
  have up : ∀ b u, Z b = some u → upd Z a o' b = some u := fun b u q => by rw [upd_ne (ne_of_none q hZ)]; exact q
  have w : Wf c.K c.f (upd Z a o') (upd H a o') φ := by
    refine ⟨fun b u q => ?_, ?_, ?_, R.wf.ok, fun b xs q => ?_⟩
    · by_cases hb : b = a
      · rw [hb, upd_same] at q ⊢; exact q
      · rw [upd_ne hb] at q ⊢; exact R.wf.sub b u q
    · rw [upd_ne (Ne.symm hf)]; exact R.wf.zf
    · obtain ⟨s, q1, q2⟩ := R.wf.feed
      exact ⟨s, q1.mono up, by rw [upd_ne (Ne.symm hf)]; exact q2⟩
    · by_cases hb : b = a
      · rw [hb, upd_same] at q; cases q; exact absurd rfl (nt xs)
      · rw [upd_ne hb] at q ⊢; exact R.wf.tt b xs q
  have cz : ∀ b, c.H b ≠ none → b ≠ a := fun b hb e => hb (by rw [e]; exact h0)
  refine ⟨w, ⟨fun b u q => up b u (R.ext.z b u q), fun b u hb q => ?_, fun b hb => ?_, fun b hb q => ?_, fun q e => ?_⟩, by rw [List.length_set]; exact R.len, fun j e h1 h2 h3 => ?_, fun j e h1 h2 => ?_, fun j k b e e' hjk h1 h2 h3 h4 h5 h6 h7 h8 => ?_, fun j e h1 h2 => ?_, fun j e h1 h2 => ?_⟩
  · rw [upd_ne (cz b (by rw [q]; simp))]; exact R.ext.h b u hb q
  · rw [upd_ne (cz b hb)]; exact R.ext.k b hb
  · rw [upd_ne (cz b hb)]; exact R.ext.n b hb q
  · obtain ⟨q', h1, h2⟩ := R.ext.d q e
    exact ⟨q', by rw [upd_ne (Ne.symm hf)]; exact h1, h2⟩
  · rcases get_set h1 with ⟨rfl, q⟩ | ⟨hj, q⟩
    · cases q; exact ⟨_, ha, rp⟩
    · rw [List.getElem?_set_ne (Ne.symm hj)] at h2 h3
      obtain ⟨v, h4, h5⟩ := R.sh j e q h2 h3
      exact ⟨v, h4, h5.mono up⟩
  · rcases get_set h2 with ⟨rfl, q⟩ | ⟨hj, q⟩
    · cases q
    · rw [List.getElem?_set_ne (Ne.symm hj)] at h1
      obtain ⟨v, h4, h5⟩ := R.ow j e h1 q
      refine ⟨v, h4, ?_⟩
      by_cases me : e.mt = true
      · unfold Res at h5 ⊢
        rw [if_pos me] at h5 ⊢
        obtain ⟨b, ob, rfl, g1, g2, g3, g4, g5⟩ := h5
        have hb : b ≠ a := fun z => R.ne j i a e d hj q ho h1 me hd hm (by rw [← z]; exact h4) ha
        exact ⟨b, ob, rfl, g1, by rw [upd_ne hb]; exact g2, g3, by rw [upd_ne hb]; exact g4, g5.mono up⟩
      · unfold Res at h5 ⊢
        rw [if_neg me] at h5 ⊢
        exact h5.mono up
  · rcases get_set h1 with ⟨rfl, q⟩ | ⟨hj, q⟩
    · cases q
    · rcases get_set h2 with ⟨rfl, q'⟩ | ⟨hk, q'⟩
      · cases q'
      · rw [List.getElem?_set_ne (Ne.symm hj)] at h3
        rw [List.getElem?_set_ne (Ne.symm hk)] at h5
        exact R.ne j k b e e' hjk q q' h3 h4 h5 h6 h7 h8
  · have hj : j ≠ i := by
      rintro rfl
      have hl : j < own.length := (List.getElem?_eq_some_iff.mp ho).1
      rw [List.getElem?_set_self hl] at h2
      rcases h2 with h2 | h2 <;> cases h2
    rw [List.getElem?_set_ne (Ne.symm hj)] at h1 h2
    exact R.pn j e h1 h2
  · have hj : j ≠ i := by
      rintro rfl
      have hl : j < own.length := (List.getElem?_eq_some_iff.mp ho).1
      rw [List.getElem?_set_self hl] at h2
      cases h2
    rw [List.getElem?_set_ne (Ne.symm hj)] at h1 h2
    exact R.pk j e h1 h2
end
end Pf

set_option Elab.async false
set_option linter.all false
set_option maxRecDepth 100000
set_option maxHeartbeats 4000000
namespace Pf
open PySem PySem.Spec PyProof.Rows L2

/-! ## a locked dict is walked -/
def sLock (i : Nat) (B : SS) : SS := fun ρ φ => match ρ[i]? with
  | some (some (.dt l)) => B (ρ.set i (some (.dz l))) φ
  | some (some (.dk l)) => B (ρ.set i (some (.kz l))) φ
  | _ => .bad
def keyDz (k : List Key) : D := .tup (k.map kD)
def iKeysD (A : SX) : SA := fun ρ φ => (A ρ φ).bind fun d φ1 => match d with
  | .dz l => .ok (l.map fun kv => keyDz kv.1) φ1
  | .kz l => .ok (l.map fun kv => kD kv.1) φ1
  | _ => .bad
theorem reps_keys {K : PySem.W.Frag} {f : Addr} {Z : Hp} : ∀ k : List Key, Reps K f Z (k.map kV) (k.map kD)
  | [] => .nil
  | k :: ks => .cons (rep_key k) (reps_keys ks)
theorem TReps.at {K : PySem.W.Frag} {f : Addr} {Z : Hp} : ∀ {v : List (List Key × V)} {d : List (List Key × D)} {i : Nat} {k : List Key} {y : V}, TReps K f Z v d → v[i]? = some (k, y) → ∃ z, d[i]? = some (k, z)
  | _, _, _, _, _, .nil, h => by cases h
  | _, _, 0, _, _, .cons (d := d) r s, h => by cases h; exact ⟨d, rfl⟩
  | _, _, i + 1, _, _, .cons r s, h => TReps.at (i := i) s h
theorem KReps.at {K : PySem.W.Frag} {f : Addr} {Z : Hp} : ∀ {v : List (Key × V)} {d : List (Key × D)} {i : Nat} {k : Key} {y : V}, KReps K f Z v d → v[i]? = some (k, y) → ∃ z, d[i]? = some (k, z)
  | _, _, _, _, _, .nil, h => by cases h
  | _, _, 0, _, _, .cons (d := d) r s, h => by cases h; exact ⟨d, rfl⟩
  | _, _, i + 1, _, _, .cons r s, h => KReps.at (i := i) s h
section
variable {X : Cx} {c : Ct} {w : Ow} {own on o1 : List Ms} {m : Md} {W : WX} {pos : Pos} {A B : SX} {q : Bool} {tg e : Expr}
theorem pss_lockP {st : List Stmt} {t : TS} (h : PSs X st t) : PSs X st (fun D σ H => ∃ d u, H d = some u ∧ Mut (some u) ∧ ∀ od, t D σ (upd H d (.frz od u))) := ⟨fun pins s σ H D I hw => by
  obtain ⟨d, u, hd, mu, hw⟩ := hw
  obtain ⟨od, I1⟩ := I.lock hd mu
  exact h.run pins s σ _ D I1 (hw od)⟩
theorem s_lock (i : Nat) {sts : List Stmt} {B : SS} (h : SJs X c w (own.set i .s) on sts B) (hw : own[i]? = some .o := by rfl) : SJs X c w own on sts (sLock i B) := by
  refine PSs.weak (pss_lockP h) ?_
  rintro Dn σ H ⟨Z, ρ, φ, R0, h⟩
  unfold sLock at h
  cases hd : ρ[i]? with
  | none => simp only [hd] at h; exact h.elim
  | some od =>
    cases od with
    | none => simp only [hd] at h; exact h.elim
    | some d =>
      have core : ∀ {d' : D} (hm : d.mt = true), (∀ {a : Addr} {u : HO} {ob : Obj}, Z a = none → RepC c.K c.f Z u d → Rep c.K c.f (upd Z a (.frz ob u)) (.ref a) d') → PostS c w on (B (ρ.set i (some d')) φ) Dn Z → ∃ a u, H a = some u ∧ Mut (some u) ∧ ∀ od, tS c w (own.set i .s) on B Dn σ (upd H a (.frz od u)) := by
        intro d' hm mk h
        obtain ⟨v, hv, rv⟩ := R0.ow i d hd hw
        unfold Res at rv
        rw [if_pos hm] at rv
        obtain ⟨a, u, rfl, h0, hz, hf, ha, rc⟩ := rv
        refine ⟨a, u, ha, by cases rc <;> trivial, fun ob => ⟨upd Z a (.frz ob u), ρ.set i (some d'), φ, ?_, h.shift ?_⟩⟩
        · exact R0.lockG hw hd hm hv ha hz hf h0 (fun xs z => nomatch z) (mk hz rc)
        · exact fun b x q => by rw [upd_ne (ne_of_none q hz)]; exact q
      have up : ∀ {a : Addr} {x : HO}, Z a = none → ∀ b u, Z b = some u → upd Z a x b = some u := fun hz b u q => by rw [upd_ne (ne_of_none q hz)]; exact q
      cases d with
      | dt l =>
        simp only [hd] at h
        refine core rfl (fun hz rc => ?_) h
        cases rc with
        | dt r => exact .dz upd_same (r.mono (up hz))
      | dk l =>
        simp only [hd] at h
        refine core rfl (fun hz rc => ?_) h
        cases rc with
        | dk r => exact .kz upd_same (r.mono (up hz))
      | _ => simp only [hd] at h; exact h.elim
theorem walk_keysT {Z0 H0 : Hp} {a : Addr} {od : Obj} {kvs : List (List Key × V)} {l : List (List Key × D)} (rs : TReps c.K c.f Z0 kvs l) (h : Z0 a = some (.frz od (.dT kvs))) : Walk q c (Itkt a od kvs) (l.map fun kv => keyDz kv.1) Z0 H0 := by
  intro i Z H φ k w
  have hH : H a = some (.frz od (.dT kvs)) := w.sub _ _ (k.1 _ _ h)
  have hl : kvs.length = l.length := rs.length
  refine ⟨fun e => ⟨hH, by rw [e, List.length_map, hl]; exact Nat.le_refl _⟩, fun d hd => ?_⟩
  have hi : i < l.length := by
    have := (List.getElem?_eq_some_iff.mp hd).1
    rwa [List.length_map] at this
  refine ⟨⟨hH, by omega⟩, fun x H' hx => ?_⟩
  obtain ⟨rfl, ky, v, b, hkv, rfl, hb⟩ := hx
  obtain ⟨z, hz⟩ := rs.at hkv
  rw [List.getElem?_map, hz] at hd
  cases hd
  exact ⟨Z, .refl, w, .tup (w.tt _ _ hb) (reps_keys _)⟩
theorem walk_keysK {Z0 H0 : Hp} {a : Addr} {od : Obj} {kvs : List (Key × V)} {l : List (Key × D)} (rs : KReps c.K c.f Z0 kvs l) (h : Z0 a = some (.frz od (.dK kvs))) : Walk q c (Itk a od kvs) (l.map fun kv => kD kv.1) Z0 H0 := by
  intro i Z H φ k w
  have hH : H a = some (.frz od (.dK kvs)) := w.sub _ _ (k.1 _ _ h)
  have hl : kvs.length = l.length := rs.length
  refine ⟨fun e => ⟨hH, by rw [e, List.length_map, hl]; exact Nat.le_refl _⟩, fun d hd => ?_⟩
  have hi : i < l.length := by
    have := (List.getElem?_eq_some_iff.mp hd).1
    rwa [List.length_map] at this
  refine ⟨⟨hH, by omega⟩, fun x H' hx => ?_⟩
  obtain ⟨rfl, ky, v, hkv, rfl⟩ := hx
  obtain ⟨z, hz⟩ := rs.at hkv
  rw [List.getElem?_map, hz] at hd
  cases hd
  exact ⟨Z, .refl, w, rep_key _⟩
theorem i_keys (ha : EX X c own .p W e A) : IJ X c own q W tg e (iKeysD A) := by
  refine PI.weak (pi_keys ha) ?_
  rintro σ H R ⟨Z, ρ, φ, R0, h⟩
  refine ⟨Z, ρ, φ, R0, ?_⟩
  unfold iKeysD at h
  cases hA : A ρ φ with
  | bad => rw [hA] at h; exact h.elim
  | ex y l φ1 => rw [hA] at h; exact h
  | ok d φ1 =>
    rw [hA] at h
    intro v Z1 H1 e1 w1 r1
    cases d with
    | dz l =>
      obtain ⟨a, od, kvs, rfl, ha, rk⟩ := r1.dz
      exact ⟨a, od, rfl, .inr ⟨kvs, w1.sub _ _ ha, h _ Z1 H1 e1 w1 (walk_keysT rk ha)⟩⟩
    | kz l =>
      obtain ⟨a, od, kvs, rfl, ha, rk⟩ := r1.kz
      exact ⟨a, od, rfl, .inl ⟨kvs, w1.sub _ _ ha, h _ Z1 H1 e1 w1 (walk_keysK rk ha)⟩⟩
    | _ => exact h.elim
end

/-! ## an own dict is locked while an expression is read -/
mutual
def D.nz : D → Bool
  | .non => true
  | .bl _ => true
  | .int _ => true
  | .str _ => true
  | .lst l => D.nzs l
  | .tup l => D.nzs l
  | _ => false
def D.nzs : List D → Bool
  | [] => true
  | d :: ds => D.nz d && D.nzs ds
end
def wipeZ (Z : Hp) (a : Addr) : Hp := fun b => if b = a then none else Z b
theorem wipeZ_ne {Z : Hp} {a b : Addr} (h : b ≠ a) : wipeZ Z a b = Z b := if_neg h
theorem wipeZ_eq {Z : Hp} {a : Addr} : wipeZ Z a a = none := if_pos rfl
section
variable {K : PySem.W.Frag} {f a : Addr} {Z : Hp} {od : Obj} {u : HO}
mutual
theorem Rep.wipe (h : Z a = some (.frz od u)) : ∀ {v : V} {d : D}, Rep K f Z v d → d.nz = true → Rep K f (wipeZ Z a) v d
  | _, _, .non, _ => .non
  | _, _, .bl b, _ => .bl b
  | _, _, .int i, _ => .int i
  | _, _, .str x, _ => .str x
  | _, _, .cel (a := b) e r, hn => .cel (by
      rw [wipeZ_ne]
      · exact e
      · rintro rfl
        rw [h] at e
        cases e
        cases r) (r.wipe h hn)
  | _, _, .tup (a := b) e r, hn => .tup (by
      rw [wipeZ_ne]
      · exact e
      · rintro rfl
        rw [h] at e
        cases e) (r.wipe h hn)
  | _, _, .kz _ _, hn => (Bool.false_ne_true hn).elim
  | _, _, .dz _ _, hn => (Bool.false_ne_true hn).elim
  | _, _, .feed, hn => (Bool.false_ne_true hn).elim
  | _, _, .exn, hn => (Bool.false_ne_true hn).elim
  | _, _, .fnv _, hn => (Bool.false_ne_true hn).elim
theorem RepC.wipe (h : Z a = some (.frz od u)) : ∀ {o : HO} {d : D}, RepC K f Z o d → d.nz = true → RepC K f (wipeZ Z a) o d
  | _, _, .lst r, hn => .lst (r.wipe h hn)
  | _, _, .dk _, hn => (Bool.false_ne_true hn).elim
  | _, _, .dt _, hn => (Bool.false_ne_true hn).elim
theorem Reps.wipe (h : Z a = some (.frz od u)) : ∀ {v : List V} {d : List D}, Reps K f Z v d → D.nzs d = true → Reps K f (wipeZ Z a) v d
  | _, _, .nil, _ => .nil
  | _, _, .cons r s, hn => .cons (r.wipe h (Bool.and_eq_true_iff.mp hn).1) (s.wipe h (Bool.and_eq_true_iff.mp hn).2)
end
end
def ePeek (i : Nat) (A : SX) : SX := fun ρ φ => match ρ[i]? with
  | some (some (.dt l)) => (match A (ρ.set i (some (.dz l))) φ with
    | .ok d φ1 => if d.nz = true then .ok d φ1 else .bad
    | _ => .bad)
  | some (some (.dk l)) => (match A (ρ.set i (some (.kz l))) φ with
    | .ok d φ1 => if d.nz = true then .ok d φ1 else .bad
    | _ => .bad)
  | _ => .bad
section
variable {X : Cx} {c : Ct} {own : List Ms} {W : WX} {e : Expr} {A : SX}
theorem x_peek (i : Nat) (h : EX X c (own.set i .s) .o W0 e A) (hw : own[i]? = some .o := by rfl) : EX X c own .o W e (ePeek i A) := by
  refine PE.weak (pe_lock h) ?_
  rintro σ H Q ⟨Z, ρ, φ, R0, h⟩
  unfold ePeek at h
  cases hd : ρ[i]? with
  | none => simp only [hd] at h; exact h.elim
  | some od =>
    cases od with
    | none => simp only [hd] at h; exact h.elim
    | some d =>
      have core : ∀ {d' : D} (hm : d.mt = true), (∀ {a : Addr} {u : HO} {ob : Obj}, Z a = none → RepC c.K c.f Z u d → Rep c.K c.f (upd Z a (.frz ob u)) (.ref a) d') → Post c .o W (match A (ρ.set i (some d')) φ with
    | .ok d φ1 => if d.nz = true then .ok d φ1 else .bad
    | _ => .bad) σ Z H Q → tLockE (tE c (own.set i .s) .o W0 A) σ H Q := by
        intro d' hm mk h
        obtain ⟨v, hv, rv⟩ := R0.ow i d hd hw
        unfold Res at rv
        rw [if_pos hm] at rv
        obtain ⟨a, u, rfl, h0, hz, hf, ha, rc⟩ := rv
        refine ⟨a, u, ha, by cases rc <;> trivial, fun ob => ⟨upd Z a (.frz ob u), ρ.set i (some d'), φ, ?_, ?_⟩⟩
        · exact R0.lockG hw hd hm hv ha hz hf h0 (fun xs z => nomatch z) (mk hz rc)
        · cases hA : A (ρ.set i (some d')) φ with
          | bad => rw [hA] at h; exact h.elim
          | ex y l φ1 => rw [hA] at h; exact h.elim
          | ok dd φ1 =>
            rw [hA] at h
            have h' : Post c .o W (if dd.nz = true then .ok dd φ1 else .bad) σ Z H Q := h
            by_cases hn : dd.nz = true
            · rw [if_pos hn] at h'
              intro v2 Z2 H2 e2 w2 r2
              have hZ2 : Z2 a = some (.frz ob u) := e2.z _ _ upd_same
              have hH2 : H2 a = some (.frz ob u) := w2.sub _ _ hZ2
              refine ⟨hH2, h' v2 (wipeZ Z2 a) (upd H2 a u) ⟨fun b x q => ?_, fun b x hb q => ?_, fun b hb => ?_, fun b hb q => ?_, fun x q => ?_⟩ ⟨fun b x q => ?_, ?_, ?_, w2.ok, fun b xs q => ?_⟩ ?_⟩
              · have hb := ne_of_none q hz
                rw [wipeZ_ne hb]
                exact e2.z _ _ (by rw [upd_ne hb]; exact q)
              · by_cases hb' : b = a
                · rw [hb', ha] at q; cases q; rw [hb', upd_same]
                · rw [upd_ne hb']; exact e2.h b x hb (by rw [upd_ne hb']; exact q)
              · by_cases hb' : b = a
                · rw [hb', upd_same]; simp
                · rw [upd_ne hb']; exact e2.k b (by rw [upd_ne hb']; exact hb)
              · by_cases hb' : b = a
                · rw [hb', wipeZ_eq]
                · rw [wipeZ_ne hb']; exact e2.n b (by rw [upd_ne hb']; exact hb) (by rw [upd_ne hb']; exact q)
              · obtain ⟨x', h1, h2⟩ := e2.d x (by rw [upd_ne (Ne.symm hf)]; exact q)
                exact ⟨x', by rw [upd_ne (Ne.symm hf)]; exact h1, h2⟩
              · by_cases hb' : b = a
                · rw [hb', wipeZ_eq] at q; cases q
                · rw [wipeZ_ne hb'] at q; rw [upd_ne hb']; exact w2.sub _ _ q
              · rw [wipeZ_ne (Ne.symm hf)]; exact w2.zf
              · obtain ⟨s, q1, q2⟩ := w2.feed
                refine ⟨s, ?_, by rw [upd_ne (Ne.symm hf)]; exact q2⟩
                rcases q1 with q1 | ⟨q1, q3⟩
                · exact .inl q1
                · refine .inr ⟨?_, q3⟩
                  rw [wipeZ_ne]
                  · exact q1
                  · intro z
                    rw [z, hZ2] at q1
                    cases q1
              · by_cases hb' : b = a
                · rw [hb', upd_same] at q
                  cases q
                  cases rc
                · rw [upd_ne hb'] at q; rw [wipeZ_ne hb']; exact w2.tt _ _ q
              · by_cases me : dd.mt = true
                · unfold Res at r2 ⊢
                  rw [if_pos me] at r2 ⊢
                  obtain ⟨b, ob', rfl, g1, g2, g3, g4, g5⟩ := r2
                  have hb : b ≠ a := fun z => by rw [z, hZ2] at g2; cases g2
                  exact ⟨b, ob', rfl, by rw [upd_ne hb] at g1; exact g1, by rw [wipeZ_ne hb]; exact g2, g3, by rw [upd_ne hb]; exact g4, g5.wipe hZ2 hn⟩
                · unfold Res at r2 ⊢
                  rw [if_neg me] at r2 ⊢
                  exact r2.wipe hZ2 hn
            · rw [if_neg hn] at h'; exact h'.elim
      have up : ∀ {a : Addr} {x : HO}, Z a = none → ∀ b u, Z b = some u → upd Z a x b = some u := fun hz b u q => by rw [upd_ne (ne_of_none q hz)]; exact q
      cases d with
      | dt l =>
        simp only [hd] at h
        refine core rfl (fun hz rc => ?_) h
        cases rc with
        | dt r => exact .dz upd_same (r.mono (up hz))
      | dk l =>
        simp only [hd] at h
        refine core rfl (fun hz rc => ?_) h
        cases rc with
        | dk r => exact .kz upd_same (r.mono (up hz))
      | _ => simp only [hd] at h; exact h.elim
end
end Pf

set_option Elab.async false
set_option linter.all false
set_option maxRecDepth 100000
set_option maxHeartbeats 4000000
namespace Pf
open PySem PySem.Spec PyProof.Rows L2

/-! ## a comprehension of a dict whose keys are tuples -/
section
variable {X : Cx}
/-- P holds within the block of a comprehension with this scope -/
abbrev InBlk (X : Cx) (scope : Scope) (P : Cx → Prop) : Prop :=
  ∀ (s : Shared) (H : Hp) (C : Addr) (cl : List (Str × Addr)) (fp : List Addr), P (X.blk s H scope (compEnvC scope cl C X.env) fp)
theorem put_compT {pins : List (Addr × Obj)} {σ : L2.St} {H : Hp} {s : Shared} {E : Value → Shared → Prop} {D b : Addr} {kvs : List (List Key × V)} {ky : List Key} {v : V} {r : Value} {Q : Unit → Shared → Prop}
    (hu : X.A.units < cLine) (I : Inv X pins σ H s) (hD : H D = some (.dT kvs)) (hb : H b = some (.tup (ky.map kV))) (small : kvs.length < sizeLine) (rv : RelV v r)
    (go : ∀ s', Inv X pins σ (upd H D (.dT (putK kvs ky v))) s' → Q () s') :
    wpAny (model X.prog X.w) X.A (dictSet D (.ref b) r) Q E s := by
  obtain ⟨z, nm, xs, rel, dd⟩ := dt_of I.hok hD
  have hxs : xs.length ≤ sizeLine := by
    have := Paired.length rel
    omega
  have fits : (putK kvs ky v).length ≤ sizeLine := Nat.le_trans (length_putK kvs ky v) small
  refine wpAny_dictSet_heap (hsz := hxs) (show (tupleKind (mixKind X.prog X.w)).room X.A from hu) (key_of I.hok hb) dd fun h1 d1 same => go _ ?_
  obtain ⟨ob, es, ep, g1, g2, g3, g4, _, g6⟩ := d1
  have rel1 := (rel.put ky hb rv).keeps (H' := upd H D (.dT (putK kvs ky v))) fun cc ys ec => by
    rw [upd_ne (ne_of ec hD (fun z => nomatch z))]; exact ec
  exact d_write I (by rw [hD]; trivial) same ⟨ob, g1⟩ ⟨fits, nm, _, rel1, ob, es, ep, g1, g2, g3, g4, g6⟩
/-- one turn's end: the pair is put at D -/
def TcPut (D : Addr) (tt : TT) (tk tv : TE) (Nx : Hp → Prop) (σ : L2.St) (H : Hp) : Prop :=
  tt σ H fun yes H1 => if yes = true then (tk σ H1 fun y H2 => tv σ H2 fun z H3 => ∃ kvs ky b, y = .ref b ∧ H3 b = some (.tup (ky.map kV)) ∧ H3 D = some (.dT kvs) ∧ kvs.length < sizeLine ∧ Nx (upd H3 D (.dT (putK kvs ky z)))) else Nx H1
/-- {tuple: v for target in iter if ..}: D the new dict -/
def tTc (wi : TI) (g : TG) (tt : TT) (tk tv : TE) (vs : List Nat) : TE := fun σ H Q => wi σ H fun J H1 => ∀ D, H1 D = none →
  ∃ Inn : Nat → Nat → Hp → Prop, (∃ m, Inn 0 m (upd H1 D (.dT []))) ∧ ∀ i m H2, Inn i m H2 →
    (J.stop i H2 ∧ Q (.ref D) H2) ∨
    (J.go i H2 ∧ ∃ Nx : Hp → Prop, (∀ H', Nx H' → ∃ m', m' < m ∧ Inn (i + 1) m' H') ∧
      ∀ x H3, J.yld i H2 x H3 → g x (wipe σ vs) H3 fun σ4 H4 => wipe σ4 vs = wipe σ vs ∧ TcPut D tt tk tv Nx σ4 H4)
variable {kx vx tg iter : Expr} {ifs : List Expr} {scope : Scope} {nm : List (Str × Nat)} {pos : Pos} {wi : TI} {g : TG} {tt : TT} {tk tv : TE}
theorem tc_core {pins : List (Addr × Obj)} {s : Shared} {σ : L2.St} {H : Hp} {Q : VK} {pos' : Pos} {use : Option (Value → Sem Unit)} {Qf : Value → Shared → Prop} (hu : X.A.units < cLine) (hc : X.calm = true) (hN : X.N.Nodup) (I : Inv X pins σ H s) (hi : PI X tg iter wi) (ok : BlkOk X.N X.env.scope scope nm)
    (hg : InBlk X scope fun Y => PG Y tg g) (ht : InBlk X scope fun Y => PTs Y ifs tt) (hk : InBlk X scope fun Y => PE Y kx tk) (hv : InBlk X scope fun Y => PE Y vx tv)
    (hs : ∀ x, foldedSetIterable iter X.env x = pure x) (h : tTc wi g tt tk tv (nm.map (·.2)) σ H Q)
    (fin : ∀ D C s' mm H', Inv X pins σ H' s' → Q (.ref D) H' → s'.heap.Ns C mm → FpOk X pins H' C → compPost (model X.prog X.w) X.A X.xe use Qf (.ref D) C (.ok .next) s') :
    wpAny (model X.prog X.w) X.A (comprehension (.DictComp kx vx [⟨tg, iter, ifs, 0⟩] scope pos) scope X.env pos' newDict false (eval iter X.env) use) Qf X.xe s := by
  have cells : ∀ y ∈ scope.names, y.2 = .free → ∃ q, X.env.cells.lookup y.1 = some q := by
    intro y hy e
    rcases ok.free y hy e with z | z
    · exact I.ok.has _ (.inl z)
    · exact I.ok.has _ (.inr z)
  refine wpAny_comprehension_free (use := use) rfl hs (closure_ok cells) ok.kind (fun y hy e => by rw [ok.uniq y hy, e]) ?_
  refine thn (hi.run pins s σ H _ I h) fun xv s1 hx => ?_
  refine thn hx fun itv s2 ⟨it, fp, tn, J, H2, eit, I2, T, st2, free2, turns⟩ => ?_
  subst eit
  refine wpAny_newObj_type (newEnv_comp ?_)
  obtain ⟨D, hD⟩ : ∃ D, s2.heap.objs.size = D := ⟨_, rfl⟩
  obtain ⟨Inn, ⟨m0, start⟩, turn⟩ := turns D (I2.hok.fresh (Nat.le_of_eq hD))
  rw [hD]
  obtain ⟨s3, hs3⟩ : ∃ s3 : Shared, ({ s2 with heap := s2.heap.push { cls := .type "dict", data := .dict #[] } } : Shared) = s3 := ⟨_, rfl⟩
  have heap3 : s2.heap.push { cls := .type "dict", data := .dict #[] } = s3.heap := by rw [← hs3]
  have push3 : ∀ b o, s2.heap.get? b = some o → s3.heap.get? b = some o := fun b o e => by rw [← heap3]; exact Heap.get?_push_of_some _ e
  have I3 : Inv X pins σ (upd H2 D (.dT [])) s3 := by
    subst hs3 hD
    exact I2.laid (t' := s2.toks) (fun b o e => Heap.get?_push_of_some _ e) (Nat.le_refl _) (dt_empty s2.heap I2.big)
  have st3 : tn 0 s3.heap := T.keep _ _ _ st2 fun b _ o e => push3 b o e
  have free3 : ∀ b ∈ fp, FpOk X pins (upd H2 D (.dT [])) b ∧ b < s3.heap.objs.size := by
    intro b hb
    obtain ⟨o, e, _⟩ := T.obj _ _ st2 b hb
    have lt : b < D := by rw [← hD]; exact Heap.lt_size e
    obtain ⟨f1, f2⟩ := free2 b hb
    exact ⟨⟨by rw [upd_ne (Nat.ne_of_lt lt)]; exact f1, f2⟩, Heap.lt_size (push3 b o e)⟩
  have I4 := block_start I3 ok hN free3
  have e4 : (fun sh : Shared => { sh with heap := pushCells (sh.heap.push { cls := .type "dict", data := .dict #[] }) scope.names }) s3 = { s3 with heap := pushCells (s3.heap.push { cls := .type "dict", data := .dict #[] }) scope.names } := rfl
  obtain ⟨cl, hcl⟩ : ∃ cl, cellsFrom (s3.heap.objs.size + 1) scope.names (cloFrom X.env.cells scope.names []) = cl := ⟨_, rfl⟩
  have Pg := hg s3 (upd H2 D (.dT [])) s3.heap.objs.size cl fp
  have Pt := ht s3 (upd H2 D (.dT [])) s3.heap.objs.size cl fp
  have Pk := hk s3 (upd H2 D (.dT [])) s3.heap.objs.size cl fp
  have Pv := hv s3 (upd H2 D (.dT [])) s3.heap.objs.size cl fp
  have none3 : ∀ b ∈ fp, upd H2 D (.dT []) b = none := fun b hb => (free3 b hb).1.1
  rw [hcl] at I4
  suffices key : codeAny (model X.prog X.w) X.A (.compStart (.DictComp kx vx [⟨tg, iter, ifs, 0⟩] scope pos) 0 (.ref it) (.ref D) (compEnvC scope cl s3.heap.objs.size X.env)) (compPost (model X.prog X.w) X.A X.xe use Qf (.ref D) s3.heap.objs.size)
      { s3 with heap := pushCells (s3.heap.push { cls := .type "dict", data := .dict #[] }) scope.names } by
    rw [← hcl] at key
    subst hs3
    exact key
  obtain ⟨ce, hce⟩ : ∃ ce, compEnvC scope cl s3.heap.objs.size X.env = ce := ⟨_, rfl⟩
  have loc : ce.locals = s3.heap.objs.size := by rw [← hce]; rfl
  rw [hce] at I4 Pg Pt Pk Pv ⊢
  obtain ⟨H3, hH3⟩ : ∃ H3, upd H2 D (.dT []) = H3 := ⟨_, rfl⟩
  rw [hH3] at I3 I4 Pg Pt Pk Pv start none3 free3
  obtain ⟨s4, hs4⟩ : ∃ s4 : Shared, ({ s3 with heap := pushCells (s3.heap.push { cls := .type "dict", data := .dict #[] }) scope.names } : Shared) = s4 := ⟨_, rfl⟩
  rw [hs4] at I4 ⊢
  have st4 : tn 0 s4.heap := T.keep _ _ _ st3 fun b _ o e => by
    rw [← hs4]
    exact pushCells_keeps _ _ _ _ (Heap.get?_push_of_some _ e)
  have still : ∀ {σ' : L2.St} {H' : Hp} {s' : Shared}, Inv (X.blk s3 H3 scope ce fp) [] σ' H' s' → (∀ b ∈ fp, H' b = none) → ∀ b ∈ fp, FpOk (X.blk s3 H3 scope ce fp) [] H' b := by
    intro σ' H' s' I' hn b hb
    have z := I'.ok.exf b hb
    exact ⟨hn b hb, z.1, I'.ok.exfs b hb, .inl hb, fun x q e => z.2 x q e, fun p hp => absurd (show p ∈ ([] : List (Addr × Obj)) ++ [] from hp) (by simp)⟩
  have loop : codeAny (model X.prog X.w) X.A (.compLoop (.DictComp kx vx [⟨tg, iter, ifs, 0⟩] scope pos) 0 (.ref it) (.ref D) ce) (compPost (model X.prog X.w) X.A X.xe use Qf (.ref D) s3.heap.objs.size) s4 := by
    refine compLoop_anyD (fun n s5 => ∃ i H5, Inv (X.blk s3 H3 scope ce fp) [] (wipe σ (nm.map (·.2))) H5 s5 ∧ tn i s5.heap ∧ (∀ b ∈ fp, H5 b = none) ∧ Inn i n H5) (fun n s5 hyp => ?_) m0 ⟨0, H3, I4, st4, none3, start⟩
    obtain ⟨i, H5, I5, st5, none5, inn⟩ := hyp
    rcases turn i n H5 inn with ⟨stop, done⟩ | ⟨go, Nx, hNx, step⟩
    · refine thnF (T.done (X.blk s3 H3 scope ce fp) rfl rfl rfl hc i [] s5 _ H5 (fun _ _ => False) I5 (still I5 none5) st5 stop) fun r s6 ⟨er, I6⟩ => ?_
      subst er
      have I7 : Inv X pins σ H5 s6 := by
        refine I3.call' (ch := fp) I6.os I6.base I6.hok I6.bare fun b hb => ?_
        obtain ⟨_, a1, a2, a3, a4, a5⟩ := (free3 b hb).1
        exact ⟨a3, a1, a4, a5⟩
      have nC : H5 s3.heap.objs.size = none := by
        rw [← loc]
        exact I6.free
      obtain ⟨mm, hn, _⟩ := I6.loc
      have hn' : s6.heap.Ns s3.heap.objs.size mm := by rw [← loc]; exact hn
      exact fin D _ s6 mm H5 I7 done hn' (I3.fpOk (Nat.le_refl _) nC)
    · refine thnF (T.item (X.blk s3 H3 scope ce fp) rfl rfl rfl hc i [] s5 _ H5 (fun _ _ => False) I5 (still I5 none5) st5 go) fun r s6 ⟨u, er, more⟩ => ?_
      subst er
      refine thnF more fun _ s7 ⟨x, H7, I7, r7, y7, st7, none7⟩ => ?_
      refine thnF (Pg.run _ s7 _ H7 x u _ (I7.pinned (still I7 none7) (T.obj _ _ st7)) r7 (step x H7 y7)) fun _ s8 ⟨σ8, H8, I8, w8, q8⟩ => ?_
      have next : ∀ {s' : Shared} {H' : Hp}, Inv (X.blk s3 H3 scope ce fp) ([] ++ pinsAt fp s7.heap) σ8 H' s' → Nx H' →
          ∃ m, m < n ∧ ∃ i H', Inv (X.blk s3 H3 scope ce fp) [] (wipe σ (nm.map (·.2))) H' s' ∧ tn i s'.heap ∧ (∀ b ∈ fp, H' b = none) ∧ Inn i m H' := by
        intro s' H' I' nx
        obtain ⟨m', less, inn'⟩ := hNx H' nx
        have kept : ∀ b ∈ fp, ∀ o, s7.heap.get? b = some o → s'.heap.get? b = some o ∧ H' b = none := by
          intro b hb o e
          have z := I'.pin (b, o) (List.mem_append_right _ (List.mem_append_right _ (mem_pinsAt hb e)))
          exact ⟨z.1, z.2.1⟩
        have same : (wipe σ (nm.map (·.2))).length = σ8.length := by rw [← w8, wipe_length]
        refine ⟨m', less, i + 1, H', (I'.unpinned (pins := [])).weak same (fun j v e => ?_), T.keep _ _ _ st7 fun b hb o e => (kept b hb o e).1, fun b hb => ?_, inn'⟩
        · rw [← w8] at e; exact (wipe_some e).1
        · obtain ⟨o, e, _⟩ := T.obj _ _ st7 b hb
          exact (kept b hb o e).2
      refine thnF (Pt.run _ s8 σ8 H8 _ I8 q8) fun yes s9 ⟨H9, I9, q9⟩ => ?_
      cases yes with
      | false =>
        simp only [Bool.false_eq_true, if_false] at q9 ⊢
        exact next I9 q9
      | true =>
        simp only [if_true] at q9 ⊢
        refine thnF (Pk.run _ s9 σ8 H9 _ I9 q9) fun z s10 ⟨yk, H10, I10, r10, q10⟩ => ?_
        refine thnF (Pv.run _ s10 σ8 H10 _ I10 q10) fun z2 s11 ⟨yv, H11, I11, r11, kvs, ky, b, ek, hb, hD11, small, nx⟩ => ?_
        subst ek
        cases (show z = Value.ref b from r10)
        exact put_compT (X := X.blk s3 H3 scope ce fp) hu I11 hD11 hb small r11 fun s12 I12 => next I12 nx
  exact codeAny_compStart_dict loop (T.self X.A 0 _ _ _ st4 loop)
/-- as a value -/
theorem pe_tc (hu : X.A.units < cLine) (hc : X.calm = true) (hN : X.N.Nodup) (hi : PI X tg iter wi) (ok : BlkOk X.N X.env.scope scope nm)
    (hg : InBlk X scope fun Y => PG Y tg g) (ht : InBlk X scope fun Y => PTs Y ifs tt) (hk : InBlk X scope fun Y => PE Y kx tk) (hv : InBlk X scope fun Y => PE Y vx tv)
    (hs : ∀ x, foldedSetIterable iter X.env x = pure x := by intro _; rfl) :
    PE X (.DictComp kx vx [⟨tg, iter, ifs, 0⟩] scope pos) (tTc wi g tt tk tv (nm.map (·.2))) := by
  refine ⟨fun pins s σ H Q I h => ?_⟩
  rw [arm_eval_DictComp]
  refine tc_core hu hc hN I hi ok hg ht hk hv hs h fun D C s' mm H' I' q hn free => ⟨mm, hn, fun h7 same => ?_⟩
  obtain ⟨b0, b1, b2, b3, b4, b5⟩ := free
  exact ⟨.ref D, H', I'.turned (t' := s'.toks) (fun b o hb e => (same.2 b hb).trans e) b0 b1 b3 b4 b5, rfl, q⟩
/-- name = {.. for ..} on one line, the name a local -/
theorem ps_setTc {i : Nat} {y : Str} {py spos : Pos} (hu : X.A.units < cLine) (hc : X.calm = true) (hN : X.N.Nodup) (hy : X.N[i]? = some y) (loc : X.env.scope.names.lookup y = some .local)
    (sw : swapsWith (.DictComp kx vx [⟨tg, iter, ifs, 0⟩] scope pos) (some (.Name y py)) spos.line X.env = pure true) (hi : PI X tg iter wi) (ok : BlkOk X.N X.env.scope scope nm)
    (hg : InBlk X scope fun Y => PG Y tg g) (ht : InBlk X scope fun Y => PTs Y ifs tt) (hk : InBlk X scope fun Y => PE Y kx tk) (hv : InBlk X scope fun Y => PE Y vx tv)
    (hs : ∀ x, foldedSetIterable iter X.env x = pure x := by intro _; rfl) :
    PS X (.Assign [.Name y py] (.DictComp kx vx [⟨tg, iter, ifs, 0⟩] scope pos) spos) (tAsg (tTc wi g tt tk tv (nm.map (·.2))) (gName i)) := by
  refine ⟨fun pins s σ H D I h => ?_⟩
  rw [exec_Assign_Name_used _ _ _ _ sw]
  refine wpAny_bind (wpAny_standAt (wpAny_bind ?_))
  have h1 : tTc wi g tt tk tv (nm.map (·.2)) σ H (fun x H1 => gName i x σ H1 D.nx) := h
  have whole := tc_core (pos := pos) (pos' := firstIterPos [⟨tg, iter, ifs, 0⟩] pos) (use := some (assign (.Name y py) X.env)) (Qf := fun _ z => L2.SP X pins D .next z) hu hc hN I hi ok hg ht hk hv hs h1 fun L C s' mm H' I' q hn free => by
    show wpAny _ _ (assign (.Name y py) X.env (.ref L)) _ _ _
    refine wpAny_assign_Name (store_ok2 (v := V.ref L) I' hN hy (.inl loc) rfl (fun s2 I2 ⟨a, sb, ha⟩ => ?_) (.inr loc))
    obtain ⟨b0, b1, b2, b3, b4, b5⟩ := free
    have other : C ≠ a := by
      rcases ha with z | z
      · rw [z]; exact b1
      · exact fun e => b4 y a z e.symm
    exact ⟨mm, hn.sameBut sb other, fun h3 sb3 => ⟨_, H', I2.turned (t' := s2.toks) (fun b o hb e => (sb3.2 b hb).trans e) b0 b1 b3 b4 b5, q⟩⟩
  exact wpAny_bind (thn whole fun _ z hz => wpAny_pure (wpAny_pure hz))
theorem sw_dict {gs : List Comprehension} {py : Pos} {y : Str} {l : Nat} {env : Env} (hk : env.scope.kind = .function) (hy : env.scope.names.lookup y = some .local) (hl : (py.line == pos.line) = true)
    (ha : (scope.names.any fun (n, k) => n == y && (k == .local || k == .cell)) = false) : swapsWith (.DictComp kx vx gs scope pos) (some (.Name y py)) l env = pure true := by
  have k1 : env.kindOf y = some .local := hy
  have k2 : env.blockKind = .function := by
    unfold Env.blockKind
    rw [hk]; rfl
  unfold swapsWith
  simp only [k2, k1, ha, Expr.pos, hl]; rfl
end
end Pf

set_option Elab.async false
set_option linter.all false
set_option maxRecDepth 100000
set_option maxHeartbeats 4000000
namespace Pf
open PySem PySem.Spec PyProof.Rows L2

/-- the pairs of a comprehension, put one after the other -/
def tdGo (T : Tg) (tst : SB) (kx vx : SX) (ρ : En) : List D → List (List Key × D) → Fd → O (List (List Key × D))
  | [], acc, φ => .ok acc φ
  | d :: ds, acc, φ => match T d ρ with
    | none => .bad
    | some ρ1 => match tst ρ1 φ with
      | .ok true φ1 => match kx ρ1 φ1 with
        | .ok kd φ2 => match vx ρ1 φ2 with
          | .ok v φ3 => match keyT kd with
            | some ky => if acc.length < sizeLine then tdGo T tst kx vx ρ ds (putT acc ky v) φ3 else .bad
            | none => .bad
          | _ => .bad
        | _ => .bad
      | .ok false φ1 => tdGo T tst kx vx ρ ds acc φ1
      | _ => .bad
def eTdc (I : SA) (T : Tg) (tst : SB) (kx vx : SX) (vs : List Nat) : SX := fun ρ φ => (I ρ φ).bind fun ds φ1 => match tdGo T tst kx vx (wipeE ρ vs) ds [] φ1 with
  | .ok l φ2 => .ok (.dt l) φ2
  | _ => .bad
theorem tdGo_cons {T : Tg} {tst : SB} {kx vx : SX} {ρ : En} {d : D} {ds : List D} {acc tot : List (List Key × D)} {φ φ' : Fd} (h : tdGo T tst kx vx ρ (d :: ds) acc φ = .ok tot φ') :
    ∃ ρ1 b φ1, T d ρ = some ρ1 ∧ tst ρ1 φ = .ok b φ1 ∧ ((b = false ∧ tdGo T tst kx vx ρ ds acc φ1 = .ok tot φ') ∨
      (b = true ∧ ∃ kd φ2 v φ3 ky, kx ρ1 φ1 = .ok kd φ2 ∧ vx ρ1 φ2 = .ok v φ3 ∧ keyT kd = some ky ∧ acc.length < sizeLine ∧ tdGo T tst kx vx ρ ds (putT acc ky v) φ3 = .ok tot φ')) := by
  unfold tdGo at h
  cases e1 : T d ρ with
  | none => rw [e1] at h; cases h
  | some ρ1 =>
    rw [e1] at h
    cases e2 : tst ρ1 φ with
    | ex _ _ _ => simp only [e2] at h; cases h
    | bad => simp only [e2] at h; cases h
    | ok b φ1 =>
      cases b with
      | false => simp only [e2] at h; exact ⟨ρ1, false, φ1, rfl, e2, .inl ⟨rfl, h⟩⟩
      | true =>
        simp only [e2] at h
        cases e3 : kx ρ1 φ1 with
        | ex _ _ _ => simp only [e3] at h; cases h
        | bad => simp only [e3] at h; cases h
        | ok kd φ2 =>
          simp only [e3] at h
          cases e4 : vx ρ1 φ2 with
          | ex _ _ _ => simp only [e4] at h; cases h
          | bad => simp only [e4] at h; cases h
          | ok v φ3 =>
            simp only [e4] at h
            cases e5 : keyT kd with
            | none => simp only [e5] at h; cases h
            | some ky =>
              simp only [e5] at h
              by_cases hl : acc.length < sizeLine
              · rw [if_pos hl] at h
                exact ⟨ρ1, true, φ1, rfl, e2, .inr ⟨rfl, kd, φ2, v, φ3, ky, e3, e4, e5, hl, h⟩⟩
              · rw [if_neg hl] at h; cases h
section
variable {X : Cx} {c : Ct} {own o1 : List Ms} {W : WX} {pos : Pos}
theorem td_read {I : SA} {T : Tg} {tst : SB} {kx vx : SX} {vs is : List Nat} {σ : L2.St} {H : Hp} {Q : VK} (his : ∀ j ∈ is, j ∈ vs) (h : tE c own .o W (eTdc I T tst kx vx vs) σ H Q) :
    tTc (tI c own true W I) (tT c (ownB own vs) o1 is T) (tB c o1 W0 tst) (tE c o1 .p W0 kx) (tE c o1 .s W0 vx) vs σ H Q := by
  obtain ⟨Z, ρ, φ, R, h⟩ := h
  refine ⟨Z, ρ, φ, R, ?_⟩
  unfold eTdc at h
  cases hI : I ρ φ with
  | bad => rw [hI] at h; exact h
  | ex y l φ' => rw [hI] at h; exact h
  | ok ds φ1 =>
    rw [hI] at h
    intro J Z1 H1 e1 w1 wk D hD
    obtain ⟨tot, φe, hgo, hpost⟩ : ∃ tot φe, tdGo T tst kx vx (wipeE ρ vs) ds [] φ1 = .ok tot φe ∧ Post c .o W (.ok (.dt tot) φe) σ Z H Q := by
      have h' : Post c .o W (match tdGo T tst kx vx (wipeE ρ vs) ds [] φ1 with
        | .ok l φ2 => .ok (.dt l) φ2
        | _ => .bad) σ Z H Q := h
      cases hg : tdGo T tst kx vx (wipeE ρ vs) ds [] φ1 with
      | bad => rw [hg] at h'; exact h'.elim
      | ex _ _ _ => rw [hg] at h'; exact h'.elim
      | ok ys φ2 => rw [hg] at h'; exact ⟨ys, φ2, rfl, h'⟩
    have hDf : D ≠ c.f := fun e => w1.hf (by rw [← e]; exact hD)
    have hz : Z1 D = none := by
      cases e : Z1 D with
      | none => rfl
      | some u => rw [w1.sub D u e] at hD; cases hD
    -- D's cell may change
    have poke : ∀ {Zn Hn : Hp} {φn : Fd} {kvs : List (List Key × V)}, Ext c.f Z1 H1 Zn Hn → Zn D = none → Wf c.K c.f Zn Hn φn → Ext c.f Z1 H1 Zn (upd Hn D (.dT kvs)) ∧ Wf c.K c.f Zn (upd Hn D (.dT kvs)) φn := by
      intro Zn Hn φn kvs e nD w
      refine ⟨⟨e.z, fun b u hb q => ?_, fun b hb => ?_, e.n, e.d.trans (.same (upd_ne (Ne.symm hDf)))⟩, ⟨fun b u q => ?_, w.zf, ?_, w.ok, w.tt.upd (fun _ z => nomatch z)⟩⟩
      · rw [upd_ne (ne_of_none q hD)]; exact e.h b u hb q
      · by_cases hbD : b = D
        · rw [hbD, upd_same]; simp
        · rw [upd_ne hbD]; exact e.k b hb
      · rw [upd_ne (fun z => by rw [z, nD] at q; cases q)]; exact w.sub b u q
      · obtain ⟨s, k1, k2⟩ := w.feed
        exact ⟨s, k1, by rw [upd_ne (Ne.symm hDf)]; exact k2⟩
    let Inn : Nat → Nat → Hp → Prop := fun i m Hn => m = ds.length - i ∧ i ≤ ds.length ∧ ∃ Zn φn acc accV, Ext c.f Z1 H1 Zn Hn ∧ Zn D = none ∧ Wf c.K c.f Zn Hn φn ∧ Hn D = some (.dT accV) ∧ TReps c.K c.f Zn accV acc ∧
      tdGo T tst kx vx (wipeE ρ vs) (ds.drop i) acc φn = .ok tot φe
    refine ⟨Inn, ⟨ds.length, by simp, Nat.zero_le _, Z1, φ1, [], [], (poke .refl hz w1).1, hz, (poke .refl hz w1).2, upd_same, .nil, hgo⟩, ?_⟩
    rintro i m Hn ⟨rfl, hi, Zn, φn, acc, accV, en, nD, wn, hDn, ra, hg⟩
    obtain ⟨wk1, wk2⟩ := wk i Zn Hn φn ⟨en.z, fun _ => en.h, (((R.more e1 w1).ext.trans en)).h⟩ wn
    by_cases hlt : i < ds.length
    · obtain ⟨d, hd⟩ : ∃ d, ds[i]? = some d := ⟨_, List.getElem?_eq_getElem hlt⟩
      obtain ⟨go, step⟩ := wk2 d hd
      rw [List.drop_eq_getElem_cons hlt] at hg
      have hdd : ds[i] = d := by
        rw [List.getElem?_eq_getElem hlt] at hd
        exact Option.some.inj hd
      rw [hdd] at hg
      obtain ⟨ρ1, b, φt, hT, htst, hcase⟩ := tdGo_cons hg
      refine .inr ⟨go, fun H' => ∃ m', m' < ds.length - i ∧ Inn (i + 1) m' H', fun H' h => h, fun x Hx hx => ?_⟩
      obtain ⟨Zx, ex, wx, rx⟩ := step x Hx hx
      have exx := en.trans ex
      have Rb : Rl c (ownB own vs) Zx (wipeE ρ vs) φn (L2.wipe σ vs) Hx := ((R.more e1 w1).more exx wx).block vs
      refine ⟨Zx, wipeE ρ vs, φn, d, ρ1, Rb, rx, hT, fun σ2 tr agr => ⟨?_, Zx, ρ1, φn, tr Zx Hx φn Sub.refl Rb, ?_⟩⟩
      · have hh : L2.wipe σ2 vs = L2.wipe (L2.wipe σ vs) vs := agr.wipe his
        rw [hh]
        refine Agr.wipe (is := vs) ⟨wipe_length _ _, fun j hj => wipe_out hj⟩ fun j h => h
      · have R2 := tr Zx Hx φn Sub.refl Rb
        have nDx : Zx D = none := ex.n D (by rw [hDn]; simp) nD
        have hDx : Hx D = some (.dT accV) := ex.h D _ hDf hDn
        rw [htst]
        intro Z3 H3 e3 w3
        have nD3 : Z3 D = none := e3.n D (by rw [hDx]; simp) nDx
        have hD3 : H3 D = some (.dT accV) := e3.h D _ hDf hDx
        have en3 := exx.trans e3
        have ra3 := (ra.mono ex.z).mono e3.z
        rcases hcase with ⟨rfl, hr⟩ | ⟨rfl, kd, φ2, v, φ3, ky, hk, hv, hky, hsz, hr⟩
        · rw [if_neg (by decide)]
          exact ⟨ds.length - (i + 1), by omega, rfl, hlt, Z3, φt, acc, accV, en3, nD3, w3, hD3, ra3, hr⟩
        · rw [if_pos rfl]
          refine ⟨Z3, ρ1, φt, R2.more e3 w3, ?_⟩
          rw [hk]
          intro y Z4 H4 e4 w4 r4
          refine ⟨Z4, ρ1, φ2, (R2.more e3 w3).more e4 w4, ?_⟩
          rw [hv]
          intro z Z5 H5 e5 w5 r5
          have r5' : Rep c.K c.f Z5 z v := r5
          obtain ⟨b, rfl, hb⟩ := keyT_rep r4 hky
          have nD4 : Z4 D = none := e4.n D (by rw [hD3]; simp) nD3
          have hD4 : H4 D = some (.dT accV) := e4.h D _ hDf hD3
          have nD5 : Z5 D = none := e5.n D (by rw [hD4]; simp) nD4
          have hD5 : H5 D = some (.dT accV) := e5.h D _ hDf hD4
          have en5 := (en3.trans e4).trans e5
          have ra5 := (ra3.mono e4.z).mono e5.z
          have pk := poke (kvs := putK accV ky z) en5 nD5 w5
          exact ⟨accV, ky, b, rfl, w5.sub _ _ (e5.z _ _ hb), hD5, by rw [ra.length]; exact hsz, ds.length - (i + 1), by omega, rfl, hlt, Z5, φ3, putT acc ky v, _, pk.1, nD5, pk.2, upd_same, ra5.put r5', hr⟩
    · have hie : i = ds.length := by omega
      refine .inl ⟨wk1 hie, ?_⟩
      rw [hie, List.drop_length] at hg
      cases hg
      have e2 := e1.trans en
      refine hpost (.ref D) Zn Hn e2 wn ?_
      show Res .o c.K c.f H Zn Hn (.ref D) (.dt tot)
      unfold Res
      rw [if_pos (by rfl)]
      refine ⟨D, .dT accV, rfl, ?_, nD, hDf, hDn, .dt ra⟩
      cases e : H D with
      | none => rfl
      | some u => exact absurd hD (e1.k D (by rw [e]; simp))
theorem x_tdc {kx vx tg iter : Expr} {ifs : List Expr} {scope : Scope} (nm : List (Str × Nat)) {is : List Nat} {I : SA} {T : Tg} {tst : SB} {kx' vx' : SX} (hu : X.A.units + 64 < cLine) (hc : X.calm = true) (hN : X.N.Nodup) (ok : blkC X.N X.env.scope scope nm = true)
    (hi : IJ X c own true W tg iter I)
    (hg : InBlk X scope fun Y => TJ Y c (ownB own (nm.map (·.2))) o1 is tg T)
    (ht : InBlk X scope fun Y => PTs Y ifs (tB c o1 W0 tst))
    (hk : InBlk X scope fun Y => EX Y c o1 .p W0 kx kx') (hv : InBlk X scope fun Y => EX Y c o1 .s W0 vx vx')
    (hs : ∀ x, foldedSetIterable iter X.env x = pure x := by intro _; rfl) (hsub : ∀ j ∈ is, j ∈ nm.map (·.2) := by decide) :
    EX X c own .o W (.DictComp kx vx [⟨tg, iter, ifs, 0⟩] scope pos) (eTdc I T tst kx' vx' (nm.map (·.2))) :=
  PE.weak (pe_tc (by omega) hc hN hi (blkOk_by ok) hg ht hk hv hs) fun _ _ _ h => td_read hsub h
theorem s_setTdc {w : Ow} (i : Nat) {y : Str} {py : Pos} {kx vx tg iter : Expr} {ifs : List Expr} {scope : Scope} (nm : List (Str × Nat)) {is : List Nat} {I : SA} {T : Tg} {tst : SB} {kx' vx' : SX} {lcp : Pos} (hu : X.A.units + 64 < cLine) (hc : X.calm = true) (hN : X.N.Nodup) (ok : blkC X.N X.env.scope scope nm = true)
    (hi : IJ X c own true w.W tg iter I)
    (hg : InBlk X scope fun Y => TJ Y c (ownB own (nm.map (·.2))) o1 is tg T)
    (ht : InBlk X scope fun Y => PTs Y ifs (tB c o1 W0 tst))
    (hk : InBlk X scope fun Y => EX Y c o1 .p W0 kx kx') (hv : InBlk X scope fun Y => EX Y c o1 .s W0 vx vx')
    (hy : X.N[i]? = some y := by rfl) (hyl : X.env.scope.names.lookup y = some .local := by rfl) (hsw : swapsWith (.DictComp kx vx [⟨tg, iter, ifs, 0⟩] scope lcp) (some (.Name y py)) pos.line X.env = pure true := by exact sw_dict rfl rfl rfl (by decide +kernel))
    (hl : i < own.length := by decide) (hs : ∀ x, foldedSetIterable iter X.env x = pure x := by intro _; rfl) (hsub : ∀ j ∈ is, j ∈ nm.map (·.2) := by decide) (ho : w.ox own := by first | exact trivial | rfl) :
    SJ X c w own (own.set i .o) (.Assign [.Name y py] (.DictComp kx vx [⟨tg, iter, ifs, 0⟩] scope lcp) pos) (sSet i (eTdc I T tst kx' vx' (nm.map (·.2)))) := by
  refine PS.weak (ps_setTc (by omega) hc hN hy hyl hsw hi (blkOk_by ok) hg ht hk hv hs) fun Dn σ H h => ?_
  exact td_read hsub (set_read (m := .o) i ho (.inl ⟨rfl, hl, rfl⟩) h)
end
end Pf

set_option Elab.async false
set_option linter.all false
set_option maxRecDepth 100000
set_option maxHeartbeats 4000000
namespace Pf
open PySem PySem.Spec PyProof.Rows L2

/-! ## an own dict is locked while a part of a body runs -/
def nzX : Option D → Bool
  | some d => d.nz
  | none => true
def nzO : List Ms → En → Bool
  | _, [] => true
  | [], x :: xs => nzX x && nzO [] xs
  | m :: ms, x :: xs => (Ms.pin (some m) || nzX x) && nzO ms xs
theorem nzO_get : ∀ {own : List Ms} {ρ : En} {j : Nat} {d : D}, nzO own ρ = true → Ms.pin own[j]? = false → ρ[j]? = some (some d) → d.nz = true
  | _, [], _, _, _, _, h => by cases h
  | [], x :: xs, 0, d, h, _, e => by cases e; exact (Bool.and_eq_true_iff.mp h).1
  | [], x :: xs, j + 1, d, h, p, e => nzO_get (own := []) (j := j) (Bool.and_eq_true_iff.mp h).2 rfl e
  | m :: ms, x :: xs, 0, d, h, p, e => by
    cases e
    have h1 := (Bool.and_eq_true_iff.mp h).1
    have p' : Ms.pin (some m) = false := p
    rw [p'] at h1
    exact h1
  | m :: ms, x :: xs, j + 1, d, h, p, e => nzO_get (own := ms) (j := j) (Bool.and_eq_true_iff.mp h).2 p e
def hasX (ρ : En) (i : Nat) : Bool := match ρ[i]? with
  | some (some _) => true
  | _ => false
theorem hasX_get {ρ : En} {i : Nat} (h : hasX ρ i = true) : ∃ d, ρ[i]? = some (some d) := by
  unfold hasX at h
  split at h
  · exact ⟨_, by assumption⟩
  · cases h
def sPeekK (i : Nat) (own1 : List Ms) (A B : SS) : SS := fun ρ φ => match ρ[i]? with
  | some (some (.dt l)) => (match A (ρ.set i (some (.dz l))) φ with
    | .nx ρ2 φ2 => if nzO own1 ρ2 = true ∧ hasX ρ2 i = true then B (ρ2.set i (some (.dt l))) φ2 else .bad
    | _ => .bad)
  | some (some (.dk l)) => (match A (ρ.set i (some (.kz l))) φ with
    | .nx ρ2 φ2 => if nzO own1 ρ2 = true ∧ hasX ρ2 i = true then B (ρ2.set i (some (.dk l))) φ2 else .bad
    | _ => .bad)
  | _ => .bad
theorem pss_lock {st : List Stmt} {X : Cx} {t : TS} (h : PSs X st t) : PSs X st (tLock t) := by
  refine ⟨fun pins s σ H D I hw => ?_⟩
  obtain ⟨d, u, hd, mu, hw⟩ := hw
  obtain ⟨od, I1⟩ := I.lock hd mu
  refine thn (h.run pins s σ _ _ I1 (hw od)) fun f s1 q => ?_
  have un : ∀ {σ' : L2.St} {H' : Hp} {s' : Shared}, Inv X pins σ' H' s' → H' d = some (.frz od u) → Inv X pins σ' (upd H' d u) s' := fun I2 e => I2.unlock e (I.nofrz hd mu)
  cases f with
  | next => obtain ⟨σ', H', I2, e, q⟩ := q; exact ⟨σ', _, un I2 e, q⟩
  | brk => obtain ⟨σ', H', I2, e, q⟩ := q; exact ⟨σ', _, un I2 e, q⟩
  | cont => obtain ⟨σ', H', I2, e, q⟩ := q; exact ⟨σ', _, un I2 e, q⟩
  | ret v => obtain ⟨x, σ', H', I2, r, e, q⟩ := q; exact ⟨x, σ', _, un I2 e, r, q⟩
theorem Rl.unlock {c : Ct} {own own1 : List Ms} {Z Z2 H H2 : Hp} {ρ ρ2 : En} {φ φ2 : Fd} {σ σ2 : L2.St} {i : Nat} {a : Addr} {ob : Obj} {u : HO} {d d' : D} (R0 : Rl c own Z ρ φ σ H) (hi : own[i]? = some .o) (hd : ρ[i]? = some (some d)) (hm : d.mt = true)
    (ha : σ[i]? = some (some (.ref a))) (hz : Z a = none) (hf : a ≠ c.f) (hH : H a = some u) (rc : RepC c.K c.f Z u d)
    (R1 : Rl (subC c (upd Z a (.frz ob u)) (ρ.set i (some d')) σ (upd H a (.frz ob u))) own1 Z2 ρ2 φ2 σ2 H2) (hr : own1[i]? = some .r) (h2 : ρ2[i]? = some (some d')) (hn : nzO own1 ρ2 = true) :
    Rl (subC c Z ρ σ H) (own1.set i .p) (wipeZ Z2 a) (ρ2.set i (some d)) φ2 σ2 (upd H2 a u) := by
  have e2 : Ext c.f (upd Z a (.frz ob u)) (upd H a (.frz ob u)) Z2 H2 := R1.ext
  have w2 : Wf c.K c.f Z2 H2 φ2 := R1.wf
  have hZ2 : Z2 a = some (.frz ob u) := e2.z _ _ upd_same
  have ext : Ext c.f Z H (wipeZ Z2 a) (upd H2 a u) := by
    refine ⟨fun b x q => ?_, fun b x hb q => ?_, fun b hb => ?_, fun b hb q => ?_, fun x q => ?_⟩
    · have hb := ne_of_none q hz
      rw [wipeZ_ne hb]
      exact e2.z _ _ (by rw [upd_ne hb]; exact q)
    · by_cases hb' : b = a
      · rw [hb', hH] at q; cases q; rw [hb', upd_same]
      · rw [upd_ne hb']; exact e2.h b x hb (by rw [upd_ne hb']; exact q)
    · by_cases hb' : b = a
      · rw [hb', upd_same]; simp
      · rw [upd_ne hb']; exact e2.k b (by rw [upd_ne hb']; exact hb)
    · by_cases hb' : b = a
      · rw [hb', wipeZ_eq]
      · rw [wipeZ_ne hb']; exact e2.n b (by rw [upd_ne hb']; exact hb) (by rw [upd_ne hb']; exact q)
    · obtain ⟨x', h1, h2⟩ := e2.d x (by rw [upd_ne (Ne.symm hf)]; exact q)
      exact ⟨x', by rw [upd_ne (Ne.symm hf)]; exact h1, h2⟩
  have wf : Wf c.K c.f (wipeZ Z2 a) (upd H2 a u) φ2 := by
    refine ⟨fun b x q => ?_, ?_, ?_, w2.ok, fun b xs q => ?_⟩
    · by_cases hb' : b = a
      · rw [hb', wipeZ_eq] at q; cases q
      · rw [wipeZ_ne hb'] at q; rw [upd_ne hb']; exact w2.sub _ _ q
    · rw [wipeZ_ne (Ne.symm hf)]; exact w2.zf
    · obtain ⟨s, q1, q2⟩ := w2.feed
      refine ⟨s, ?_, by rw [upd_ne (Ne.symm hf)]; exact q2⟩
      rcases q1 with q1 | ⟨q1, q3⟩
      · exact .inl q1
      · refine .inr ⟨?_, q3⟩
        rw [wipeZ_ne]
        · exact q1
        · intro z
          rw [z, hZ2] at q1
          cases q1
    · by_cases hb' : b = a
      · rw [hb', upd_same] at q
        cases q
        cases rc
      · rw [upd_ne hb'] at q; rw [wipeZ_ne hb']; exact w2.tt _ _ q
  have pin1 : Ms.pin own1[i]? = true := by rw [hr]; rfl
  have hσ : σ2[i]? = some (some (.ref a)) := by
    have := (R1.pn i d' h2 (.inr hr)).2
    have e : σ2[i]? = σ[i]? := this
    rw [e]; exact ha
  have old : ∀ {j : Nat} {x : D}, j ≠ i → (own1[j]? = some .p ∨ own1[j]? = some .r) → ρ2[j]? = some (some x) → ρ[j]? = some (some x) ∧ σ2[j]? = σ[j]? := fun {j x} hj hp h => by
    obtain ⟨q1, q2⟩ := R1.pn j x h hp
    have q1' : (ρ.set i (some d'))[j]? = some (some x) := q1
    rw [List.getElem?_set_ne (Ne.symm hj)] at q1'
    exact ⟨q1', q2⟩
  have rs : ∀ {v : V} {x : D}, Rep c.K c.f Z2 v x → x.nz = true → Rep c.K c.f (wipeZ Z2 a) v x := fun r h => r.wipe hZ2 h
  refine ⟨wf, ext, by rw [List.length_set]; exact R1.len, fun j x h1 h2' h3 => ?_, fun j x h1 h2' => ?_, fun j k b x y hjk h1 h2' h3 h4 h5 h6 h7 h8 => ?_, fun j x h1 h2' => ?_, fun j x h1 h2' => ?_⟩
  · rcases get_set h1 with ⟨rfl, q⟩ | ⟨hj, q⟩
    · have hl : j < own1.length := (List.getElem?_eq_some_iff.mp hr).1
      rw [List.getElem?_set_self hl] at h3
      exact absurd rfl h3
    · rw [List.getElem?_set_ne (Ne.symm hj)] at h2' h3
      by_cases hp : own1[j]? = some .r
      · -- pinned: as it stood; frozen in Z
        obtain ⟨v, e, r⟩ := R1.sh j x q (by rw [hp]; simp) (by rw [hp]; simp)
        obtain ⟨q1, q2⟩ := old hj (.inr hp) q
        obtain ⟨v', e', r'⟩ := R0.look q1
        rw [q2, e'] at e
        cases e
        refine ⟨v, by rw [q2]; exact e', ?_⟩
        rcases r' with r' | ⟨b, o, rfl, k1, k2, k3, k4⟩
        · exact r'.mono ext.z
        · -- an own cell that is frozen: not so
          exfalso
          have hb : b ≠ a ∨ b = a := by by_cases h : b = a <;> simp [h]
          have r2 : Rep c.K c.f Z2 (.ref b) x := r
          have nb : Z2 b = none ∨ b = a := by
            rcases hb with hb | hb
            · exact .inl (e2.n b (by rw [upd_ne hb, k3]; simp) (by rw [upd_ne hb]; exact k1))
            · exact .inr hb
          cases r2 with
          | cel e _ =>
            rcases nb with nb | nb
            · rw [nb] at e; cases e
            · rename_i oo rr
              rw [nb, hZ2] at e
              cases e
              cases rr
          | tup e _ => cases k4
          | kz e _ => cases k4
          | dz e _ => cases k4
          | feed => cases k4
          | exn => cases k4
          | fnv _ => cases k4
      · have np : Ms.pin own1[j]? = false := by
          cases hh : Ms.pin own1[j]? with
          | false => rfl
          | true => rcases pin_iff.mp hh with z | z <;> contradiction
        obtain ⟨v, e, r⟩ := R1.sh j x q h2' h3
        exact ⟨v, e, rs r (nzO_get hn np q)⟩
  · rcases get_set h2' with ⟨rfl, q⟩ | ⟨hj, q⟩
    · cases q
    · rw [List.getElem?_set_ne (Ne.symm hj)] at h1
      obtain ⟨v, e, r⟩ := R1.ow j x h1 q
      have nx : x.nz = true := nzO_get hn (by rw [q]; rfl) h1
      refine ⟨v, e, ?_⟩
      by_cases me : x.mt = true
      · unfold Res at r ⊢
        rw [if_pos me] at r ⊢
        obtain ⟨b, ob', rfl, g1, g2, g3, g4, g5⟩ := r
        have hb : b ≠ a := fun z => by rw [z, hZ2] at g2; cases g2
        have g1' : (upd H a (.frz ob u)) b = none := g1
        exact ⟨b, ob', rfl, by rw [upd_ne hb] at g1'; exact g1', by rw [wipeZ_ne hb]; exact g2, g3, by rw [upd_ne hb]; exact g4, g5.wipe hZ2 nx⟩
      · unfold Res at r ⊢
        rw [if_neg me] at r ⊢
        exact rs r nx
  · rcases get_set h1 with ⟨rfl, q⟩ | ⟨hj, q⟩
    · cases q
    · rcases get_set h2' with ⟨rfl, q'⟩ | ⟨hk, q'⟩
      · cases q'
      · rw [List.getElem?_set_ne (Ne.symm hj)] at h3
        rw [List.getElem?_set_ne (Ne.symm hk)] at h5
        exact R1.ne j k b x y hjk q q' h3 h4 h5 h6 h7 h8
  · rcases get_set h1 with ⟨rfl, q⟩ | ⟨hj, q⟩
    · cases q
      exact ⟨hd, hσ.trans ha.symm⟩
    · rw [List.getElem?_set_ne (Ne.symm hj)] at h2'
      exact old hj h2' q
  · rcases get_set h1 with ⟨rfl, q⟩ | ⟨hj, q⟩
    · cases q
      obtain ⟨v, e, r⟩ := R0.look hd
      rw [ha] at e
      cases e
      exact ⟨_, hσ, r⟩
    · rw [List.getElem?_set_ne (Ne.symm hj)] at h2'
      obtain ⟨q1, q2⟩ := old hj (.inl h2') q
      obtain ⟨v, e, r⟩ := R0.look q1
      exact ⟨v, by rw [q2]; exact e, r⟩
section
variable {X : Cx} {c : Ct} {w : Ow} {own own1 on : List Ms}
theorem s_peekK (i n : Nat) {sts : List Stmt} {A B : SS} (hw : own[i]? = some .o) (hl : own1.length = own.length) (hr : own1[i]? = some .r)
    (h1 : ∀ (Z : Hp) (ρ : En) (σ : L2.St) (H : Hp), SJs X (subC c Z ρ σ H) ⟨w.m, W0, fun _ => True, []⟩ (ownIn (own.set i .s)) own1 (sts.take n) A) (h2 : SJs X c w (ownKeep own (own1.set i .p)) on (sts.drop n) B) :
    SJs X c w own on sts (sPeekK i own1 A B) := by
  have D1 := pss_lock (PSs.later (ι := Hp × En × L2.St × Hp) fun q => h1 q.1 q.2.1 q.2.2.1 q.2.2.2)
  have D2 := pss_app D1 h2
  rw [List.take_append_drop] at D2
  refine PSs.weak D2 ?_
  rintro Dn σ H ⟨Z, ρ, φ, R0, h⟩
  unfold sPeekK at h
  cases hd : ρ[i]? with
  | none => simp only [hd] at h; exact h.elim
  | some od =>
    cases od with
    | none => simp only [hd] at h; exact h.elim
    | some d =>
      have core : ∀ {d' : D} (hm : d.mt = true), (∀ {a : Addr} {u : HO} {ob : Obj}, Z a = none → RepC c.K c.f Z u d → Rep c.K c.f (upd Z a (.frz ob u)) (.ref a) d') →
          PostS c w on (match A (ρ.set i (some d')) φ with
            | .nx ρ2 φ2 => if nzO own1 ρ2 = true ∧ hasX ρ2 i = true then B (ρ2.set i (some d)) φ2 else .bad
            | _ => .bad) Dn Z → tLock (fun D σ H => ∃ q : Hp × En × L2.St × Hp, tS (subC c q.1 q.2.1 q.2.2.1 q.2.2.2) ⟨w.m, W0, fun _ => True, []⟩ (ownIn (own.set i .s)) own1 A D σ H) ⟨fun σ' H' => tS c w (ownKeep own (own1.set i .p)) on B Dn σ' H', Dn.rt, Dn.bk, Dn.ct⟩ σ H := by
        intro d' hm mk h
        obtain ⟨v, hv, rv⟩ := R0.ow i d hd hw
        unfold Res at rv
        rw [if_pos hm] at rv
        obtain ⟨a, u, rfl, h0, hz, hf, ha, rc⟩ := rv
        refine ⟨a, u, ha, by cases rc <;> trivial, fun ob => ?_⟩
        have RL := R0.lockG (o' := .frz ob u) hw hd hm hv ha hz hf h0 (fun xs z => nomatch z) (mk (ob := ob) hz rc)
        refine ⟨(upd Z a (.frz ob u), ρ.set i (some d'), σ, upd H a (.frz ob u)), upd Z a (.frz ob u), ρ.set i (some d'), φ, RL.enter, ?_⟩
        cases hA : A (ρ.set i (some d')) φ with
        | nx ρ2 φ2 =>
          rw [hA] at h
          have h' : PostS c w on (if nzO own1 ρ2 = true ∧ hasX ρ2 i = true then B (ρ2.set i (some d)) φ2 else .bad) Dn Z := h
          by_cases hn : nzO own1 ρ2 = true ∧ hasX ρ2 i = true
          · rw [if_pos hn] at h'
            intro σ2 Z2 H2 k R1
            have hZ2 : Z2 a = some (.frz ob u) := k _ _ upd_same
            refine ⟨R1.wf.sub _ _ hZ2, ?_⟩
            obtain ⟨dd, hdd⟩ := hasX_get hn.2
            have e0 : (ρ.set i (some d'))[i]? = some (some dd) := (R1.pn i dd hdd (.inr hr)).1
            rw [List.getElem?_set_self (List.getElem?_eq_some_iff.mp hd).1] at e0
            cases e0
            have R2 := Rl.unlock R0 hw hd hm hv hz hf ha rc R1 hr hdd hn.1
            exact ⟨_, _, φ2, R0.leaveK (by rw [List.length_set]; exact hl) R2, h'.shift fun b x q => by
              have hb := ne_of_none q hz
              rw [wipeZ_ne hb]
              exact k _ _ (by show upd Z a (.frz ob u) b = some x; rw [upd_ne hb]; exact q)⟩
          · rw [if_neg hn] at h'; exact h'.elim
        | rt _ _ => rw [hA] at h; exact h.elim
        | bk _ _ => rw [hA] at h; exact h.elim
        | ct _ _ => rw [hA] at h; exact h.elim
        | ex _ _ _ _ => rw [hA] at h; exact h.elim
        | bad => rw [hA] at h; exact h.elim
      have up : ∀ {a : Addr} {x : HO}, Z a = none → ∀ b u, Z b = some u → upd Z a x b = some u := fun hz b u q => by rw [upd_ne (ne_of_none q hz)]; exact q
      cases d with
      | dt l =>
        simp only [hd] at h
        refine core rfl (fun hz rc => ?_) h
        cases rc with
        | dt r => exact .dz upd_same (r.mono (up hz))
      | dk l =>
        simp only [hd] at h
        refine core rfl (fun hz rc => ?_) h
        cases rc with
        | dk r => exact .kz upd_same (r.mono (up hz))
      | _ => simp only [hd] at h; exact h.elim
end
end Pf

set_option Elab.async false
set_option linter.all false
set_option maxRecDepth 100000
set_option maxHeartbeats 4000000
namespace Pf
open PySem PySem.Spec PyProof.Rows L2

/-! ## plain evaluation -/
section
variable {ρ ρ1 ρ2 : En} {φ φ1 φ2 φ3 : Fd} {A B C : SX} {d e z : D}
theorem v_ok {i : Nat} (h : ρ[i]? = some (some d)) : eVar i ρ φ = .ok d φ := by unfold eVar; rw [h]
theorem bin_ok {g : D → D → Option D} (ha : A ρ φ = .ok d φ1) (hb : B ρ φ1 = .ok e φ2) (h : g d e = some z) : eBin g A B ρ φ = .ok z φ2 := by
  unfold eBin; rw [ha]; show (B ρ φ1).bind _ = _; rw [hb]; show ofO (g d e) φ2 = _; rw [h]; rfl
theorem un_ok {g : D → Option D} (ha : A ρ φ = .ok d φ1) (h : g d = some z) : eUn g A ρ φ = .ok z φ1 := by
  unfold eUn; rw [ha]; show ofO (g d) φ1 = _; rw [h]; rfl
theorem nil_ok : aNil ρ φ = .ok [] φ := rfl
theorem cons_ok {S : SA} {ds : List D} (ha : A ρ φ = .ok d φ1) (hs : S ρ φ1 = .ok ds φ2) : aCons A S ρ φ = .ok (d :: ds) φ2 := by
  unfold aCons; rw [ha]; show (S ρ φ1).bind _ = _; rw [hs]; rfl
theorem one_ok (ha : A ρ φ = .ok d φ1) : aCons A aNil ρ φ = .ok [d] φ1 := cons_ok ha nil_ok
theorem two_ok (ha : A ρ φ = .ok d φ1) (hb : B ρ φ1 = .ok e φ2) : aCons A (aCons B aNil) ρ φ = .ok [d, e] φ2 := cons_ok ha (one_ok hb)
theorem cb_ok {S : SA} {g : List D → Option D} {ds : List D} (hs : S ρ φ = .ok ds φ1) (h : g ds = some z) : eCB g S ρ φ = .ok z φ1 := by
  unfold eCB; rw [hs]; show ofO (g ds) φ1 = _; rw [h]; rfl
theorem cb1_ok {g : List D → Option D} (ha : A ρ φ = .ok d φ1) (h : g [d] = some z) : eCB g (aCons A aNil) ρ φ = .ok z φ1 := cb_ok (one_ok ha) h
theorem call_ok {S : SA} {F : Fn} {ds : List D} (hs : S ρ φ = .ok ds φ1) (h : F ds φ1 = .ok z φ2) : eCall F S ρ φ = .ok z φ2 := by
  unfold eCall; rw [hs]; exact h
theorem call0_ok {F : Fn} (h : F [] φ = .ok z φ1) : eCall0 F ρ φ = .ok z φ1 := by unfold eCall0; rw [h]
theorem lst_ok {S : SA} {ds : List D} (hs : S ρ φ = .ok ds φ1) (h : ds.length ≤ sizeLine) : eLst S ρ φ = .ok (.lst ds) φ1 := by
  unfold eLst; rw [hs]; show (if _ then _ else _) = _; rw [if_pos h]
theorem tup_ok {S : SA} {ds : List D} (hs : S ρ φ = .ok ds φ1) (h : ds.length ≤ sizeLine) : eTup S ρ φ = .ok (.tup ds) φ1 := by
  unfold eTup; rw [hs]; show (if _ then _ else _) = _; rw [if_pos h]
/-! tests -/
variable {S T : SB} {b k : Bool}
theorem cmp_ok {g : D → D → Option D} (ha : A ρ φ = .ok d φ1) (hb : B ρ φ1 = .ok e φ2) (h : g d e = some (.bl b)) : bCmp g A B ρ φ = .ok b φ2 := by
  unfold bCmp bVal; rw [bin_ok ha hb h]; rfl
theorem tru_ok (ha : A ρ φ = .ok d φ1) (h : truD d = some b) : bTru A ρ φ = .ok b φ1 := by
  unfold bTru; rw [ha]; show ofO (truD d) φ1 = _; rw [h]; rfl
theorem trub_ok (ha : A ρ φ = .ok (.bl b) φ1) : bTru A ρ φ = .ok b φ1 := tru_ok ha (show some b = some b from rfl)
theorem not_ok (ha : S ρ φ = .ok b φ1) : bNot S ρ φ = .ok (!b) φ1 := by unfold bNot; rw [ha]; rfl
theorem or_no (ha : S ρ φ = .ok false φ1) (hb : T ρ φ1 = .ok b φ2) : bOr S T ρ φ = .ok b φ2 := by
  unfold bOr; rw [ha]; exact hb
theorem or_yes (ha : S ρ φ = .ok true φ1) : bOr S T ρ φ = .ok true φ1 := by unfold bOr; rw [ha]; rfl
theorem or_ok (ha : S ρ φ = .ok b φ1) (hb : b = false → T ρ φ1 = .ok k φ1) : bOr S T ρ φ = .ok (b || k) φ1 := by
  cases b with
  | true => rw [or_yes ha]; rfl
  | false => rw [or_no ha (hb rfl)]; rfl
theorem and_yes (ha : S ρ φ = .ok true φ1) (hb : T ρ φ1 = .ok b φ2) : bAnd S T ρ φ = .ok b φ2 := by
  unfold bAnd; rw [ha]; exact hb
theorem and_no (ha : S ρ φ = .ok false φ1) : bAnd S T ρ φ = .ok false φ1 := by unfold bAnd; rw [ha]; rfl
theorem and_ok (ha : S ρ φ = .ok b φ1) (hb : b = true → T ρ φ1 = .ok k φ1) : bAnd S T ρ φ = .ok (b && k) φ1 := by
  cases b with
  | false => rw [and_no ha]; rfl
  | true => rw [and_yes ha (hb rfl)]; rfl
theorem still_ok (ha : S ρ φ = .ok b φ1) : bStill S ρ φ = .ok b φ1 := by unfold bStill; rw [ha]; rfl
theorem eand_yes (ha : A ρ φ = .ok (.bl true) φ1) (hb : B ρ φ1 = .ok d φ2) : eAnd A B ρ φ = .ok d φ2 := by unfold eAnd; rw [ha]; exact hb
theorem eand_no (ha : A ρ φ = .ok (.bl false) φ1) : eAnd A B ρ φ = .ok (.bl false) φ1 := by unfold eAnd; rw [ha]; rfl
theorem eor_no (ha : A ρ φ = .ok (.bl false) φ1) (hb : B ρ φ1 = .ok d φ2) : eOr A B ρ φ = .ok d φ2 := by unfold eOr; rw [ha]; exact hb
theorem enot_ok (ha : A ρ φ = .ok (.bl b) φ1) : eNot A ρ φ = .ok (.bl (!b)) φ1 := by unfold eNot; rw [ha]; rfl
theorem eif_yes (ha : S ρ φ = .ok true φ1) (hb : A ρ φ1 = .ok d φ2) : eIf S A B ρ φ = .ok d φ2 := by unfold eIf; rw [ha]; exact hb
theorem eif_no (ha : S ρ φ = .ok false φ1) (hb : B ρ φ1 = .ok d φ2) : eIf S A B ρ φ = .ok d φ2 := by unfold eIf; rw [ha]; exact hb
/-! statements -/
variable {P Q : SS} {r : R}
theorem seq_nx (h1 : P ρ φ = .nx ρ1 φ1) (h2 : Q ρ1 φ1 = r) : sSeq P Q ρ φ = r := by unfold sSeq; rw [h1]; exact h2
theorem seq_rt (h1 : P ρ φ = .rt d φ1) : sSeq P Q ρ φ = .rt d φ1 := by unfold sSeq; rw [h1]; rfl
theorem seq_one (h1 : P ρ φ = .nx ρ1 φ1) : sSeq P sNil ρ φ = .nx ρ1 φ1 := seq_nx h1 rfl
theorem set_ok {i : Nat} (h : A ρ φ = .ok d φ1) : sSet i A ρ φ = .nx (ρ.set i (some d)) φ1 := by unfold sSet; rw [h]; rfl
theorem ret_ok (h : A ρ φ = .ok d φ1) : sRet A ρ φ = .rt d φ1 := by unfold sRet; rw [h]; rfl
theorem if_yes (h : S ρ φ = .ok true φ1) (h2 : P ρ φ1 = r) : sIf S P Q ρ φ = r := by unfold sIf; rw [h]; exact h2
theorem if_no (h : S ρ φ = .ok false φ1) (h2 : Q ρ φ1 = r) : sIf S P Q ρ φ = r := by unfold sIf; rw [h]; exact h2
/-- a test that must not hold -/
theorem if_skip (h : S ρ φ = .ok false φ1) : sIf S P sNil ρ φ = .nx ρ φ1 := if_no h rfl
theorem app_ok {i : Nat} {l : List D} (hi : ρ[i]? = some (some (.lst l))) (h : A ρ φ = .ok d φ1) (hl : l.length < sizeLine) : sMut i gApp A ρ φ = .nx (ρ.set i (some (.lst (l ++ [d])))) φ1 := by
  unfold sMut; rw [hi]; show (A ρ φ).toR ρ _ = _; rw [h]; show (match gApp l d with | some l' => R.nx (ρ.set i (some (.lst l'))) φ1 | none => .bad) = _
  unfold gApp; rw [if_pos hl]
theorem ext_ok {i : Nat} {l k : List D} (hi : ρ[i]? = some (some (.lst l))) (h : A ρ φ = .ok (.lst k) φ1) (hl : l.length + k.length ≤ sizeLine) : sMut i gExt A ρ φ = .nx (ρ.set i (some (.lst (l ++ k)))) φ1 := by
  unfold sMut; rw [hi]; show (A ρ φ).toR ρ _ = _; rw [h]; show (match gExt l (.lst k) with | some l' => R.nx (ρ.set i (some (.lst l'))) φ1 | none => .bad) = _
  unfold gExt; dsimp only; rw [if_pos hl]
theorem aug_ok {i : Nat} {f : Int → Int → Int} {n m : Int} (hi : ρ[i]? = some (some (.int n))) (h : A ρ φ = .ok (.int m) φ1) : sAug i f A ρ φ = .nx (ρ.set i (some (.int (f n m)))) φ1 := by
  unfold sAug; rw [hi]; show (A ρ φ).toR ρ _ = _; rw [h]; rfl
theorem for_ok {I : SA} {T : Tg} {ds : List D} (hI : I ρ φ = .ok ds φ1) (h : forGo T P ds ρ φ1 = r) : sFor I T P ρ φ = r := by unfold sFor; rw [hI]; exact h
theorem run_rt {n s : Nat} {ds : List D} (h : P (ds.map some ++ List.replicate (s - n) none) φ = .rt d φ1) : runB P n s ds φ = .ok d φ1 := by unfold runB; rw [h]
theorem run_nx {n s : Nat} {ds : List D} (h : P (ds.map some ++ List.replicate (s - n) none) φ = .nx ρ1 φ1) : runB P n s ds φ = .ok .non φ1 := by unfold runB; rw [h]
theorem run_ret {n s : Nat} {ds : List D} (h : A (ds.map some ++ List.replicate (s - n) none) φ = .ok d φ1) : runB (sSeq (sRet A) sNil) n s ds φ = .ok d φ1 := run_rt (seq_rt (ret_ok h))
end
/-! iterators -/
section
variable {ρ : En} {φ φ1 : Fd} {A : SX} {d : D}
theorem seq_l {l : List D} (h : A ρ φ = .ok (.lst l) φ1) : iSeq A ρ φ = .ok l φ1 := by unfold iSeq; rw [h]; rfl
theorem seq_t {l : List D} (h : A ρ φ = .ok (.tup l) φ1) : iSeq A ρ φ = .ok l φ1 := by unfold iSeq; rw [h]; rfl
theorem upTo_eq (n : Nat) (a : Int) : upTo a n = (List.range n).map fun (k : Nat) => D.int (a + k) := by
  refine List.ext_getElem? fun i => ?_
  by_cases h : i < n
  · rw [upTo_get n a i h, List.getElem?_map, List.getElem?_range h]; rfl
  · rw [List.getElem?_eq_none (by rw [upTo_len]; omega), List.getElem?_eq_none (by simp; omega)]
theorem bind_ok' {α β : Type} {x : O α} {a : α} {k : α → Fd → O β} (h : x = .ok a φ1) : x.bind k = k a φ1 := by rw [h]; rfl
theorem ofO_some {α : Type} {o : Option α} {a : α} (h : o = some a) : ofO o φ1 = .ok a φ1 := by rw [h]; rfl
theorem small62_of {j : Int} (h : -4611686018427387904 ≤ j ∧ j < 4611686018427387904) : small62 j = true := by
  unfold small62
  rw [Bool.and_eq_true, decide_eq_true_eq, decide_eq_true_eq]
  exact h
theorem rg1_some {n : Nat} (hn : n < 1000000000) : rg1 [.int (n : Int)] = some (upTo 0 n) := by
  have h1 : rg1 [.int (n : Int)] = if small62 (n : Int) then some (upTo 0 (n : Int).toNat) else none := by rw [rg1]
  rw [h1, small62_of ⟨by omega, by omega⟩, if_pos rfl, Int.toNat_natCast]
theorem rg1_ok {S : SA} {n : Nat} (h : S ρ φ = .ok [.int (n : Int)] φ1) (hn : n < 1000000000) : iRg1 S ρ φ = .ok ((List.range n).map fun (k : Nat) => D.int k) φ1 := by
  unfold iRg1
  rw [bind_ok' h, ofO_some (rg1_some hn), upTo_eq]
  congr 1
  exact List.map_congr_left fun k _ => by rw [Int.zero_add]
theorem rg2_some {a b : Int} (ha : small62 a = true) (hb : small62 b = true) : rg2 [.int a, .int b] = some (upTo a (b - a).toNat) := by
  have h1 : rg2 [.int a, .int b] = if (small62 a && small62 b) = true then some (upTo a (b - a).toNat) else none := by rw [rg2]
  rw [h1, ha, hb]; exact if_pos (by decide)
theorem rg2_ok {S : SA} {a b : Int} (h : S ρ φ = .ok [.int a, .int b] φ1) (ha : small62 a = true) (hb : small62 b = true) : iRg2 S ρ φ = .ok ((List.range (b - a).toNat).map fun (k : Nat) => D.int (a + k)) φ1 := by
  unfold iRg2
  rw [bind_ok' h, ofO_some (rg2_some ha hb), upTo_eq]
end
/-! comprehensions over mapped lists -/
section
variable {α : Type} {T : Tg} {tst : SB} {elt : SX} {ρ : En} {φ : Fd}
theorem lcGo_map (e : α → D) (p : α → Bool) (g : α → D) : ∀ (xs : List α), (∀ x ∈ xs, ∃ ρ1, T (e x) ρ = some ρ1 ∧ tst ρ1 φ = .ok (p x) φ ∧ (p x = true → elt ρ1 φ = .ok (g x) φ)) → lcGo T tst elt ρ (xs.map e) φ = .ok ((xs.filter p).map g) φ
  | [], _ => rfl
  | x :: xs, h => by
    obtain ⟨ρ1, h1, h2, h3⟩ := h x List.mem_cons_self
    have ih := lcGo_map e p g xs fun y hy => h y (List.mem_cons_of_mem _ hy)
    rw [List.map_cons]
    unfold lcGo
    rw [h1]
    simp only [h2]
    cases hp : p x with
    | false => simp only; rw [List.filter_cons_of_neg (by rw [hp]; decide)]; exact ih
    | true => simp only [h3 hp, ih]; rw [List.filter_cons_of_pos hp]; rfl
theorem lc_ok {I : SA} {vs : List Nat} {φ1 : Fd} (xs : List α) (e : α → D) (p : α → Bool) (g : α → D) (hI : I ρ φ1 = .ok (xs.map e) φ) (hl : xs.length ≤ sizeLine)
    (h : ∀ x ∈ xs, ∃ ρ1, T (e x) (wipeE ρ vs) = some ρ1 ∧ tst ρ1 φ = .ok (p x) φ ∧ (p x = true → elt ρ1 φ = .ok (g x) φ)) : eLc I T tst elt vs ρ φ1 = .ok (.lst ((xs.filter p).map g)) φ := by
  unfold eLc
  rw [hI]
  show (match lcGo T tst elt (wipeE ρ vs) (xs.map e) φ with | .ok ys φ2 => if ys.length ≤ sizeLine then O.ok (D.lst ys) φ2 else .bad | _ => .bad) = _
  rw [lcGo_map e p g xs h]
  show (if _ then _ else _) = _
  rw [if_pos (by rw [List.length_map]; exact Nat.le_trans (List.length_filter_le _ _) hl)]
/-- without a test -/
theorem lcm_ok {I : SA} {vs : List Nat} {φ1 : Fd} (xs : List α) (e : α → D) (g : α → D) (hI : I ρ φ1 = .ok (xs.map e) φ) (hl : xs.length ≤ sizeLine)
    (h : ∀ x ∈ xs, ∃ ρ1, T (e x) (wipeE ρ vs) = some ρ1 ∧ elt ρ1 φ = .ok (g x) φ) : eLc I T bYes elt vs ρ φ1 = .ok (.lst (xs.map g)) φ := by
  have := lc_ok (tst := bYes) xs e (fun _ => true) g hI hl fun x hx => by
    obtain ⟨ρ1, h1, h2⟩ := h x hx
    exact ⟨ρ1, h1, rfl, fun _ => h2⟩
  rw [this, List.filter_eq_self.mpr fun _ _ => rfl]
/-- a loop with what holds of the slots -/
theorem for_inv {B : SS} {e : α → D} (P : List α → En → Prop) : ∀ (xs pre : List α) {ρ : En}, P pre ρ → (∀ (pre' : List α) (x : α) (post : List α) (ρ : En), pre ++ xs = pre' ++ x :: post → P pre' ρ → ∃ ρ1, T (e x) ρ = some ρ1 ∧ ∃ ρ2, (B ρ1 φ = .nx ρ2 φ ∨ B ρ1 φ = .ct ρ2 φ) ∧ P (pre' ++ [x]) ρ2) →
    ∃ ρ', forGo T B (xs.map e) ρ φ = .nx ρ' φ ∧ P (pre ++ xs) ρ'
  | [], pre, ρ, h0, _ => ⟨ρ, rfl, by simpa using h0⟩
  | x :: xs, pre, ρ, h0, hs => by
    obtain ⟨ρ1, h1, ρ2, h2, h3⟩ := hs pre x xs ρ rfl h0
    obtain ⟨ρ', h4, h5⟩ := for_inv (B := B) (e := e) P xs (pre ++ [x]) h3 fun pre' y post ρ e' hp => hs pre' y post ρ (by rw [← e']; simp) hp
    refine ⟨ρ', ?_, by simpa using h5⟩
    rw [List.map_cons]
    unfold forGo
    rw [h1]
    rcases h2 with h2 | h2 <;> simp only [h2] <;> exact h4
end

/-! ## rows -/
def row (r : List Int) : D := .lst (r.map .int)
def rws (l : List (List Int)) : D := .lst (l.map row)
theorem gSum_ints (ns : List Int) : gSum [row ns] = some (.int ns.sum) := by
  show (intsOf (ns.map D.int)).map (fun ns => D.int ns.sum) = _
  rw [intsOf_map]; rfl
theorem gSum_ints' (ns : List Int) : gSum [.lst (ns.map .int)] = some (.int ns.sum) := gSum_ints ns
theorem gMul_ok' {i j : Int} (h : i.natAbs < 18446744073709551616) : gMul (.int i) (.int j) = some (.int (i * j)) := by
  show (if cMul i j = true then _ else _) = _
  rw [if_pos]
  unfold cMul
  simp [h]
theorem gDiv_ok {i j : Int} (h0 : j ≠ 0) (h1 : j.natAbs < 1073741824) : gDiv (.int i) (.int j) = some (.int (i.fdiv j)) := by
  show (if cDiv i j = true then _ else _) = _
  rw [if_pos]
  unfold cDiv
  simp [h0, h1]
theorem gMod_ok {i j : Int} (h0 : j ≠ 0) : gMod (.int i) (.int j) = some (.int (i.fmod j)) := by
  show (if decide (j ≠ 0) = true then _ else _) = _
  rw [if_pos (by simp [h0])]
theorem gIx_row {r : List Int} {k : Nat} {x : Int} (h : r[k]? = some x) : gIx (row r) (.int (k : Int)) = some (.int x) := by
  show atI (r.map D.int) (k : Int) = _
  rw [atI_nat (by rw [List.getElem?_map, h]; rfl)]
theorem gIx_lst {l : List D} {k : Nat} {x : D} (h : l[k]? = some x) : gIx (.lst l) (.int (k : Int)) = some x := by
  show atI l (k : Int) = _
  rw [atI_nat h]
theorem size_le {n : Nat} (h : n ≤ 1000000) : n ≤ sizeLine := by rw [sizeLine_eq]; omega
theorem size_lt {n : Nat} (h : n ≤ 1000000) : n < sizeLine := by rw [sizeLine_eq]; omega
end Pf

set_option Elab.async false
set_option linter.all false
set_option maxRecDepth 100000
set_option maxHeartbeats 4000000
namespace Pf
open PySem PySem.Spec PyProof.Rows L2

/-! ## data of one shape: equality and order -/
def ltL {α : Type} [DecidableEq α] (lt : α → α → Bool) : List α → List α → Bool
  | [], [] => false
  | [], _ :: _ => true
  | _ :: _, [] => false
  | a :: r, b :: s => if a = b then ltL lt r s else lt a b
structure Tot {α : Type} (lt : α → α → Bool) : Prop where
  irr : ∀ a, lt a a = false
  tr : ∀ a b c, lt a b = true → lt b c = true → lt a c = true
  tri : ∀ a b, lt a b = false → lt b a = false → a = b
theorem Tot.asym {α : Type} {lt : α → α → Bool} (h : Tot lt) {a b : α} (q : lt a b = true) : lt b a = false := by
  cases e : lt b a with
  | false => rfl
  | true => have := h.tr a b a q e; rw [h.irr] at this; cases this
theorem tot_int : Tot (fun a b : Int => decide (a < b)) := ⟨fun a => by simp, fun a b c h1 h2 => by simp at *; omega, fun a b h1 h2 => by simp at *; omega⟩
theorem tot_lst {α : Type} [DecidableEq α] {lt : α → α → Bool} (h : Tot lt) : Tot (ltL lt) := by
  refine ⟨fun a => ?_, fun a => ?_, fun a => ?_⟩
  · induction a with
    | nil => rfl
    | cons x r ih => show (if x = x then _ else _) = _; rw [if_pos rfl]; exact ih
  · induction a with
    | nil => intro b c h1 h2; cases b <;> cases c <;> first | (cases h1; done) | (cases h2; done) | rfl
    | cons x r ih =>
      intro b c h1 h2
      cases b with
      | nil => cases h1
      | cons y s =>
        cases c with
        | nil => cases h2
        | cons z t =>
          have h1' : (if x = y then ltL lt r s else lt x y) = true := h1
          have h2' : (if y = z then ltL lt s t else lt y z) = true := h2
          show (if x = z then ltL lt r t else lt x z) = true
          by_cases e1 : x = y
          · rw [if_pos e1] at h1'
            subst e1
            by_cases e2 : x = z
            · rw [if_pos e2] at h2' ⊢; exact ih s t h1' h2'
            · rw [if_neg e2] at h2' ⊢; exact h2'
          · rw [if_neg e1] at h1'
            by_cases e2 : y = z
            · subst e2
              rw [if_neg e1]; exact h1'
            · rw [if_neg e2] at h2'
              by_cases e3 : x = z
              · subst e3
                have := h.tr _ _ _ h1' h2'
                rw [h.irr] at this; cases this
              · rw [if_neg e3]; exact h.tr _ _ _ h1' h2'
  · induction a with
    | nil => intro b h1 h2; cases b <;> first | rfl | (cases h1; done)
    | cons x r ih =>
      intro b h1 h2
      cases b with
      | nil => cases h2
      | cons y s =>
        have h1' : (if x = y then ltL lt r s else lt x y) = false := h1
        have h2' : (if y = x then ltL lt s r else lt y x) = false := h2
        by_cases e1 : x = y
        · subst e1
          rw [if_pos rfl] at h1' h2'
          rw [ih s h1' h2']
        · rw [if_neg e1] at h1'
          rw [if_neg (Ne.symm e1)] at h2'
          exact absurd (h.tri _ _ h1' h2') e1
/-- data f x, compared as x -/
structure Emb {α : Type} [DecidableEq α] (f : α → D) (lt : α → α → Bool) (n : Nat) : Prop where
  al : ∀ x y, PySem.W.alike (f x).py (f y).py = true
  eq : ∀ x y, PyData.eqv (f x).py (f y).py = decide (x = y)
  lt : ∀ x y, ltD (f x) (f y) = lt x y
  lay : ∀ x, (f x).py.canLay0 = true
  dep : ∀ x, (f x).py.depth ≤ n
  nn : ∀ x, f x ≠ .non
  nt : ∀ x l, f x ≠ .tup l
theorem emb_int : Emb D.int (fun a b => decide (a < b)) 0 :=
  ⟨fun _ _ => rfl, fun x y => by show PyData.eqv (.int x) (.int y) = _; simp only [PyData.eqv]; rfl, fun x y => PySem.W.dataLt_int x y, fun _ => rfl, fun _ => Nat.le_refl _, fun _ h => (by cases h), fun _ _ h => (by cases h)⟩
section
variable {α : Type} [DecidableEq α] {f : α → D} {lt : α → α → Bool} {n : Nat}
theorem pys_map (xs : List α) : D.pys (xs.map f) = xs.map fun x => (f x).py := by
  induction xs with
  | nil => rfl
  | cons x r ih => show (f x).py :: D.pys (r.map f) = _; rw [ih]; rfl
theorem alikeAll_map (h : Emb f lt n) : ∀ xs ys : List α, PySem.W.alikeAll (xs.map fun x => (f x).py) (ys.map fun x => (f x).py) = true
  | [], _ => by cases ‹List α› <;> simp [PySem.W.alikeAll]
  | _ :: _, [] => by simp [PySem.W.alikeAll]
  | x :: xs, y :: ys => by
    rw [List.map_cons, List.map_cons, PySem.W.alikeAll, h.al, alikeAll_map h xs ys]; rfl
theorem eqvAll_map (h : Emb f lt n) : ∀ xs ys : List α, PyData.eqvAll (xs.map fun x => (f x).py) (ys.map fun x => (f x).py) = decide (xs = ys)
  | [], [] => by simp [PyData.eqvAll]
  | [], _ :: _ => by simp [PyData.eqvAll]
  | _ :: _, [] => by simp [PyData.eqvAll]
  | x :: xs, y :: ys => by
    rw [List.map_cons, List.map_cons, PySem.W.eqv_all_cons, h.eq, eqvAll_map h xs ys]
    by_cases e1 : x = y <;> by_cases e2 : xs = ys <;> simp [e1, e2]
theorem lt_map (h : Emb f lt n) : ∀ xs ys : List α, PyProof.Rows.lexLt itemOrd (PySem.W.keyToksAll (xs.map fun x => (f x).py)) (PySem.W.keyToksAll (ys.map fun x => (f x).py)) = ltL lt xs ys
  | [], [] => by simp [ltL, PyProof.Rows.lex_irrefl]
  | [], y :: ys => by
    rw [List.map_cons, PySem.W.toks_all_cons]
    simp only [List.map_nil, PySem.W.keyToksAll]
    rw [lex_diff (O := itemOrd) (by simp)]
    simp [ltL, itemLt]
  | x :: xs, [] => by
    rw [List.map_cons, PySem.W.toks_all_cons]
    simp only [List.map_nil, PySem.W.keyToksAll]
    rw [lex_diff (O := itemOrd) (by simp)]
    simp [ltL, itemLt]
  | x :: xs, y :: ys => by
    rw [List.map_cons, List.map_cons]
    show _ = (if x = y then ltL lt xs ys else lt x y)
    by_cases e : x = y
    · rw [if_pos e, PySem.W.dataLt_all_yes (h.al x y) (by rw [h.eq, e]; simp)]
      exact lt_map h xs ys
    · rw [if_neg e, PySem.W.dataLt_all_no (h.al x y) (by rw [h.eq]; simp [e])]
      exact h.lt x y
theorem lay_map (h : Emb f lt n) : ∀ xs : List α, PyData.canLayAll0 (xs.map fun x => (f x).py) = true
  | [] => by simp [PyData.canLayAll0]
  | x :: xs => by rw [List.map_cons, PyData.canLayAll0, h.lay, lay_map h xs]; rfl
theorem dep_map (h : Emb f lt n) : ∀ xs : List α, PyData.depthAll (xs.map fun x => (f x).py) ≤ n
  | [] => by simp [PyData.depthAll]
  | x :: xs => by
    rw [List.map_cons, PyData.depthAll]
    have h1 := h.dep x
    have h2 := dep_map h xs
    omega
theorem Emb.list (h : Emb f lt n) : Emb (fun xs : List α => D.lst (xs.map f)) (ltL lt) (n + 1) := by
  have py : ∀ xs : List α, (D.lst (xs.map f)).py = .list (xs.map fun x => (f x).py) := fun xs => by
    show PyData.list (D.pys (xs.map f)) = _
    rw [pys_map]
  refine ⟨fun x y => ?_, fun x y => ?_, fun x y => ?_, fun x => ?_, fun x => ?_, fun x e => (by cases e), fun x l e => (by cases e)⟩
  · rw [py, py, PySem.W.alike]; exact alikeAll_map h x y
  · rw [py, py, PyData.eqv]; exact eqvAll_map h x y
  · unfold ltD; rw [py, py, PySem.W.dataLt_list]; exact lt_map h x y
  · rw [py, PyData.canLay0]; exact lay_map h x
  · rw [py, PyData.depth]
    have := dep_map h x
    omega
theorem Emb.shp (h : Emb f lt n) (hn : n ≤ 64) (x : α) : (f x).shp = true := by
  unfold D.shp SeqAt.shaped
  rw [h.lay, Bool.true_and, decide_eq_true_eq]
  have := h.dep x
  omega
theorem Emb.gEq (h : Emb f lt n) (hn : n ≤ 64) (x y : α) : gEq (f x) (f y) = some (.bl (decide (x = y))) := by
  unfold Pf.gEq
  rw [h.shp hn, h.shp hn]
  show some (D.bl _) = _
  rw [h.eq]
theorem Emb.gNe (h : Emb f lt n) (hn : n ≤ 64) (x y : α) : gNe (f x) (f y) = some (.bl (!decide (x = y))) := by
  unfold Pf.gNe
  rw [h.shp hn, h.shp hn]
  show some (D.bl _) = _
  rw [h.eq]
theorem Emb.gIn (h : Emb f lt n) (hn : n < 64) (neg : Bool) (x : α) (l : List α) : gIn neg (f x) (.lst (l.map f)) = some (.bl (if neg then !decide (x ∈ l) else decide (x ∈ l))) := by
  unfold Pf.gIn
  have h1 : gInB (f x) (.lst (l.map f)) = some (decide (x ∈ l)) := by
    have hs := h.list.shp (n := n + 1) (by omega) l
    have h0 : gInB (f x) (.lst (l.map f)) = if (f x).shp && (D.lst (l.map f)).shp then some ((l.map f).any fun z => PyData.eqv z.py (f x).py) else none := by
      unfold gInB
      rfl
    rw [h0, h.shp (by omega), hs]
    show some _ = _
    congr 1
    rw [List.any_map]
    induction l with
    | nil => rfl
    | cons y l ih =>
      rw [List.any_cons, ih (h.list.shp (n := n + 1) (by omega) l) (by unfold gInB; rfl)]
      show (PyData.eqv (f y).py (f x).py || _) = _
      rw [h.eq]
      by_cases e : y = x <;> by_cases e2 : x ∈ l <;> simp [e, e2, eq_comm]
      all_goals simp [Ne.symm e]
  rw [h1]
  rfl
def leL (lt : α → α → Bool) (x y : α) : Bool := !lt y x
theorem Emb.okSort (h : Emb f lt n) (hn : n ≤ 64) (l : List α) : okSort (l.map f) := by
  refine ⟨fun d hd e he => ?_, fun d hd => ?_, .inr fun d hd => ?_⟩
  · obtain ⟨x, _, rfl⟩ := List.mem_map.mp hd
    obtain ⟨y, _, rfl⟩ := List.mem_map.mp he
    exact h.al x y
  · obtain ⟨x, _, rfl⟩ := List.mem_map.mp hd
    exact h.shp hn x
  · obtain ⟨x, _, rfl⟩ := List.mem_map.mp hd
    exact ⟨h.nn x, h.nt x⟩
theorem Emb.sort (h : Emb f lt n) (l : List α) : sortD (l.map f) = (l.mergeSort (leL lt)).map f :=
  (List.map_mergeSort (f := f) (r := leL lt) (s := leD) fun a _ b _ => by unfold leL leD; rw [h.lt]).symm
theorem Emb.gSorted (h : Emb f lt n) (hn : n ≤ 64) (l : List α) : gSorted [.lst (l.map f)] = some (.lst ((l.mergeSort (leL lt)).map f)) := by
  rw [gSorted_l (h.okSort hn l), h.sort]
/-- the sorted list is the only one -/
theorem sorted_uniq (T : Tot lt) : ∀ {l m : List α}, l.Pairwise (fun a b => leL lt a b = true) → m.Pairwise (fun a b => leL lt a b = true) → l.Perm m → l = m
  | [], m, _, _, h => (List.Perm.nil_eq h)
  | x :: l, [], _, _, h => by cases h.length_eq
  | x :: l, y :: m, h1, h2, h => by
    have e : x = y := by
      obtain ⟨p1, q1⟩ := List.pairwise_cons.mp h1
      obtain ⟨p2, q2⟩ := List.pairwise_cons.mp h2
      rcases List.mem_cons.mp (h.mem_iff.mp List.mem_cons_self) with e | hx
      · exact e
      · rcases List.mem_cons.mp (h.mem_iff.mpr (List.mem_cons_self (a := y) (l := m))) with e | hy
        · exact e.symm
        · have a1 := p2 x hx
          have a2 := p1 y hy
          unfold leL at a1 a2
          exact T.tri x y (by simpa using a1) (by simpa using a2)
    subst e
    rw [sorted_uniq T (List.pairwise_cons.mp h1).2 (List.pairwise_cons.mp h2).2 h.cons_inv]
theorem leL_trans (T : Tot lt) (a b c : α) (h1 : leL lt a b = true) (h2 : leL lt b c = true) : leL lt a c = true := by
  unfold leL at *
  rw [Bool.not_eq_true'] at *
  cases e : lt c a with
  | false => rfl
  | true =>
    cases e1 : lt a b with
    | true => have := T.tr c a b e e1; rw [h2] at this; cases this
    | false =>
      have := T.tri a b e1 h1
      subst this
      rw [h2] at e; cases e
theorem leL_total (T : Tot lt) (a b : α) : (leL lt a b || leL lt b a) = true := by
  unfold leL
  cases e : lt b a with
  | false => rfl
  | true => rw [T.asym e]; rfl
theorem sort_pw (T : Tot lt) (l : List α) : (l.mergeSort (leL lt)).Pairwise fun a b => leL lt a b = true :=
  List.pairwise_mergeSort (leL_trans T) (leL_total T) l
theorem sort_is (T : Tot lt) {l m : List α} (h1 : m.Pairwise fun a b => leL lt a b = true) (h2 : m.Perm l) : l.mergeSort (leL lt) = m :=
  sorted_uniq T (sort_pw T l) h1 ((List.mergeSort_perm l _).trans h2.symm)
theorem sort_perm (T : Tot lt) {l m : List α} (h : l.Perm m) : l.mergeSort (leL lt) = m.mergeSort (leL lt) :=
  sort_is T (sort_pw T m) ((List.mergeSort_perm m _).trans h.symm)
end
abbrev ltI : Int → Int → Bool := fun a b => decide (a < b)
abbrev ltR : List Int → List Int → Bool := ltL ltI
abbrev ltRR : List (List Int) → List (List Int) → Bool := ltL ltR
theorem emb_row : Emb row ltR 1 := emb_int.list
theorem emb_rws : Emb rws ltRR 2 := emb_row.list
theorem tot_row : Tot ltR := tot_lst tot_int
theorem tot_rws : Tot ltRR := tot_lst tot_row
end Pf

set_option Elab.async false
set_option linter.all false
set_option maxRecDepth 100000
set_option maxHeartbeats 4000000
namespace Pf
open PySem PySem.Spec PyProof.Rows L2
def d5 (n : Nat) : Int := match n with
  | 0 => -2
  | 1 => -1
  | 2 => 0
  | 3 => 1
  | _ => 2
def dec (n : Nat) : List Int := [d5 (n / 78125 % 5), d5 (n / 15625 % 5), d5 (n / 3125 % 5), d5 (n / 625 % 5), d5 (n / 125 % 5), d5 (n / 25 % 5), d5 (n / 5 % 5), d5 (n % 5)]
def codes : List Nat := [7812, 32812, 37812, 38812, 39012, 39052, 39060, 39064, 39072, 39112, 39312, 40312, 45312, 70312, 97656, 97668, 97708, 97716, 97908, 97916, 97956, 97968, 98908, 98916, 98956, 98968, 99156, 99168, 99208, 99216, 103908, 103916, 103956, 103968, 104156, 104168, 104208, 104216, 105156, 105168, 105208, 105216, 105408, 105416, 105456, 105468, 128908, 128916, 128956, 128968, 129156, 129168, 129208, 129216, 130156, 130168, 130208, 130216, 130408, 130416, 130456, 130468, 135156, 135168, 135208, 135216, 135408, 135416, 135456, 135468, 136408, 136416, 136456, 136468, 136656, 136668, 136708, 136716, 157812, 162812, 163812, 164012, 164052, 164060, 164064, 164072, 164112, 164312, 165312, 170312, 187812, 188812, 189012, 189052, 189060, 189064, 189072, 189112, 189312, 190312, 193812, 194012, 194052, 194060, 194064, 194072, 194112, 194312, 195012, 195052, 195060, 195064, 195072, 195112, 195252, 195260, 195264, 195272, 195300, 195304, 195320, 195324, 195352, 195360, 195364, 195372, 195512, 195552, 195560, 195564, 195572, 195612, 196312, 196512, 196552, 196560, 196564, 196572, 196612, 196812, 200312, 201312, 201512, 201552, 201560, 201564, 201572, 201612, 201812, 202812, 220312, 225312, 226312, 226512, 226552, 226560, 226564, 226572, 226612, 226812, 227812, 232812, 253908, 253916, 253956, 253968, 254156, 254168, 254208, 254216, 255156, 255168, 255208, 255216, 255408, 255416, 255456, 255468, 260156, 260168, 260208, 260216, 260408, 260416, 260456, 260468, 261408, 261416, 261456, 261468, 261656, 261668, 261708, 261716, 285156, 285168, 285208, 285216, 285408, 285416, 285456, 285468, 286408, 286416, 286456, 286468, 286656, 286668, 286708, 286716, 291408, 291416, 291456, 291468, 291656, 291668, 291708, 291716, 292656, 292668, 292708, 292716, 292908, 292916, 292956, 292968, 320312, 345312, 350312, 351312, 351512, 351552, 351560, 351564, 351572, 351612, 351812, 352812, 357812, 382812]
/-- the 240 roots, ascending -/
def RT : List (List Int) := codes.map dec
def EV : List (List Int) := (List.range 8).flatMap fun j => (List.range j).flatMap fun i => [((2 : Int), (2 : Int)), (2, -2), (-2, 2), (-2, -2)].map fun p => ((List.replicate 8 (0 : Int)).set i p.1).set j p.2
def grow : Nat → List (List Int)
  | 0 => [[]]
  | n + 1 => (grow n).flatMap fun r => [r ++ [(-1 : Int)], r ++ [1]]
def OD : List (List Int) := (grow 8).filter fun r => r.sum.fmod 4 == 0
def LR : List (List Int) := ((List.range 8).flatMap fun i => (List.range (8 - (i + 1))).flatMap fun t => [(-2 : Int), 2].flatMap fun a => [(-2 : Int), 2].map fun b => ((List.replicate 8 (0 : Int)).set i a).set (i + 1 + t) b) ++
  ((List.range 256).map fun bits => (List.range 8).map fun k => 1 - 2 * (((bits >>> k) % 2 : Nat) : Int)).filter fun r => r.sum.fmod 4 == 0
def chainB (l : List (List Int)) : Bool := (l.zip l.tail).all fun p => ltR p.1 p.2
theorem RT_len : RT.length = 240 := by decide +kernel
theorem RT_chain : chainB RT = true := by decide +kernel
theorem RT_eo : RT.Perm (EV ++ OD) := by
  have : List.isPerm RT (EV ++ OD) = true := by decide +kernel
  exact List.isPerm_iff.mp this
theorem RT_lr : RT.Perm LR := by
  have : List.isPerm RT LR = true := by decide +kernel
  exact List.isPerm_iff.mp this
theorem chain_pw : ∀ l : List (List Int), chainB l = true → l.Pairwise fun a b => ltR a b = true
  | [], _ => .nil
  | [x], _ => List.pairwise_singleton _ _
  | x :: y :: r, h => by
    have h' : (ltR x y && chainB (y :: r)) = true := h
    rw [Bool.and_eq_true] at h'
    have ih := chain_pw (y :: r) h'.2
    refine List.pairwise_cons.mpr ⟨fun z hz => ?_, ih⟩
    rcases List.mem_cons.mp hz with rfl | hz
    · exact h'.1
    · exact tot_row.tr _ _ _ h'.1 ((List.pairwise_cons.mp ih).1 z hz)
theorem RT_lt : RT.Pairwise fun a b => ltR a b = true := chain_pw _ RT_chain
theorem lt_le {α : Type} [DecidableEq α] {lt : α → α → Bool} (T : Tot lt) {l : List α} (h : l.Pairwise fun a b => lt a b = true) : l.Pairwise fun a b => leL lt a b = true :=
  h.imp fun {a b} q => by unfold leL; rw [T.asym q]; rfl
theorem lt_nodup {α : Type} [DecidableEq α] {lt : α → α → Bool} (T : Tot lt) {l : List α} (h : l.Pairwise fun a b => lt a b = true) : l.Nodup :=
  h.imp fun {a b} q e => by rw [e, T.irr] at q; cases q
theorem RT_nodup : RT.Nodup := lt_nodup tot_row RT_lt
theorem RT_eo_sort : (EV ++ OD).mergeSort (leL ltR) = RT := sort_is tot_row (lt_le tot_row RT_lt) RT_eo
theorem RT_lr_sort : LR.mergeSort (leL ltR) = RT := sort_is tot_row (lt_le tot_row RT_lt) RT_lr
theorem RT_row : ∀ r ∈ RT, r.length = 8 ∧ ∀ x ∈ r, -2 ≤ x ∧ x ≤ 2 := by decide +kernel
end Pf

set_option Elab.async false
set_option linter.all false
set_option maxRecDepth 100000
set_option maxHeartbeats 4000000
namespace Pf
open PySem PySem.Spec PyProof.Rows L2

/-! ## the algebra of rows -/
def Rw (r : List Int) : Prop := r.length = 8 ∧ ∀ x ∈ r, x.natAbs ≤ 1000000
def mulS (r s : List Int) : Int := (List.zipWith (fun a b => a * b) r s).sum
def dot (r s : List Int) : Int := (mulS r s).fdiv 4
def add (r s : List Int) : List Int := List.zipWith (fun a b => a + b) r s
def smul (a : Int) (r : List Int) : List Int := r.map fun x => a * x
def less (r s : List Int) (m : Int) : List Int := List.zipWith (fun a b => a - m * b) r s
/-- the row mirrored by the root g -/
def mir (g x : List Int) : List Int := less x g (dot g x)
theorem mulS_comm : ∀ r s : List Int, mulS r s = mulS s r
  | [], [] => rfl
  | [], _ :: _ => rfl
  | _ :: _, [] => rfl
  | a :: r, b :: s => by
    have ih := mulS_comm r s
    unfold mulS at ih ⊢
    rw [List.zipWith_cons_cons, List.zipWith_cons_cons, List.sum_cons, List.sum_cons, ih, Int.mul_comm]
theorem dot_comm (r s : List Int) : dot r s = dot s r := by unfold dot; rw [mulS_comm]
theorem mulS_cons (a b : Int) (r s : List Int) : mulS (a :: r) (b :: s) = a * b + mulS r s := by unfold mulS; rw [List.zipWith_cons_cons, List.sum_cons]
theorem mulS_add : ∀ {r s t : List Int}, r.length = s.length → mulS (add r s) t = mulS r t + mulS s t
  | [], [], t, _ => by cases t <;> rfl
  | a :: r, b :: s, [], _ => by simp [mulS]
  | a :: r, b :: s, c :: t, h => by
    have ih := mulS_add (t := t) (Nat.succ.inj h : r.length = s.length)
    show mulS ((a + b) :: add r s) (c :: t) = _
    rw [mulS_cons, mulS_cons, mulS_cons, ih, Int.add_mul]
    omega
theorem mulS_smul (m : Int) : ∀ (r t : List Int), mulS (smul m r) t = m * mulS r t
  | [], t => by cases t <;> simp [mulS, smul]
  | a :: r, [] => by simp [mulS, smul]
  | a :: r, c :: t => by
    show mulS ((m * a) :: smul m r) (c :: t) = _
    rw [mulS_cons, mulS_cons, mulS_smul m r t, Int.mul_add, Int.mul_assoc]
theorem mulS_less (m : Int) : ∀ {r s t : List Int}, r.length = s.length → mulS (less r s m) t = mulS r t - m * mulS s t
  | [], [], t, _ => by cases t <;> simp [mulS, less]
  | a :: r, b :: s, [], _ => by simp [mulS]
  | a :: r, b :: s, c :: t, h => by
    have ih := mulS_less m (t := t) (Nat.succ.inj h : r.length = s.length)
    show mulS ((a - m * b) :: less r s m) (c :: t) = _
    rw [mulS_cons, mulS_cons, mulS_cons, ih, Int.sub_mul, Int.mul_add, Int.mul_assoc]
    omega
theorem mulS_less' (m : Int) {r s t : List Int} (h : r.length = s.length) : mulS t (less r s m) = mulS t r - m * mulS t s := by
  rw [mulS_comm, mulS_less m h, mulS_comm r, mulS_comm s]
theorem less_len {r s : List Int} {m : Int} (h : r.length = s.length) : (less r s m).length = r.length := by unfold less; rw [List.length_zipWith]; omega
theorem add_len {r s : List Int} (h : r.length = s.length) : (add r s).length = r.length := by unfold add; rw [List.length_zipWith]; omega
theorem smul_len {r : List Int} {m : Int} : (smul m r).length = r.length := by unfold smul; rw [List.length_map]

/-! ## what a root is -/
/-- whole rows: alike by two, the sum a multiple of 4 -/
def Lat (x : List Int) : Prop := x.length = 8 ∧ (∀ a ∈ x, (a - x.headD 0) % 2 = 0) ∧ x.sum % 4 = 0
instance (x : List Int) : Decidable (Lat x) := by unfold Lat; infer_instance
def rootB (x : List Int) : Bool := x.all (fun a => (a - x.headD 0) % 2 == 0) && x.sum % 4 == 0 && mulS x x == 8
theorem odd_roots_in : ∀ a ∈ [(-1 : Int), 1], ∀ b ∈ [(-1 : Int), 1], ∀ c ∈ [(-1 : Int), 1], ∀ d ∈ [(-1 : Int), 1], ∀ e ∈ [(-1 : Int), 1], ∀ f ∈ [(-1 : Int), 1], ∀ g ∈ [(-1 : Int), 1], ∀ h ∈ [(-1 : Int), 1],
    rootB [a, b, c, d, e, f, g, h] = true → [a, b, c, d, e, f, g, h] ∈ RT := by decide +kernel
theorem even_roots_in : ∀ a ∈ [(-2 : Int), 0, 2], ∀ b ∈ [(-2 : Int), 0, 2], ∀ c ∈ [(-2 : Int), 0, 2], ∀ d ∈ [(-2 : Int), 0, 2], ∀ e ∈ [(-2 : Int), 0, 2], ∀ f ∈ [(-2 : Int), 0, 2], ∀ g ∈ [(-2 : Int), 0, 2], ∀ h ∈ [(-2 : Int), 0, 2],
    rootB [a, b, c, d, e, f, g, h] = true → [a, b, c, d, e, f, g, h] ∈ RT := by decide +kernel
theorem RT_rootB : RT.all (fun x => rootB x) = true := by decide +kernel
theorem sq_nn (a : Int) : 0 ≤ a * a := by
  rcases Int.le_total 0 a with h | h
  · exact Int.mul_nonneg h h
  · exact Int.mul_nonneg_of_nonpos_of_nonpos h h
theorem sq_le {a : Int} (h : a * a ≤ 8) : -2 ≤ a ∧ a ≤ 2 := by
  constructor
  · rcases (show a < -2 ∨ -2 ≤ a by omega) with q | q
    · have : 3 * 3 ≤ (-a) * (-a) := Int.mul_le_mul (by omega) (by omega) (by decide) (by omega)
      rw [Int.neg_mul_neg] at this
      omega
    · exact q
  · rcases (show 2 < a ∨ a ≤ 2 by omega) with q | q
    · have : 3 * 3 ≤ a * a := Int.mul_le_mul (by omega) (by omega) (by decide) (by omega)
      omega
    · exact q
theorem mem_odd {a : Int} (h1 : -2 ≤ a) (h2 : a ≤ 2) (h3 : a % 2 = 1) : a ∈ [(-1 : Int), 1] := by
  have : a = -1 ∨ a = 1 := by omega
  rcases this with rfl | rfl <;> decide
theorem mem_even {a : Int} (h1 : -2 ≤ a) (h2 : a ≤ 2) (h3 : a % 2 = 0) : a ∈ [(-2 : Int), 0, 2] := by
  have : a = -2 ∨ a = 0 ∨ a = 2 := by omega
  rcases this with rfl | rfl | rfl <;> decide
theorem RT_of {x : List Int} (hl : x.length = 8) (h : rootB x = true) : x ∈ RT := by
  match x, hl with
  | [a, b, c, d, e, f, g, i], _ =>
    have h0 := h
    unfold rootB at h
    rw [Bool.and_eq_true, Bool.and_eq_true] at h
    obtain ⟨⟨h1, _⟩, h3⟩ := h
    have h3' : mulS [a, b, c, d, e, f, g, i] [a, b, c, d, e, f, g, i] = 8 := by simpa using h3
    have e3 : a * a + (b * b + (c * c + (d * d + (e * e + (f * f + (g * g + (i * i + 0))))))) = 8 := h3'
    have p1 := sq_nn a
    have p2 := sq_nn b
    have p3 := sq_nn c
    have p4 := sq_nn d
    have p5 := sq_nn e
    have p6 := sq_nn f
    have p7 := sq_nn g
    have p8 := sq_nn i
    obtain ⟨a1, a2⟩ := sq_le (a := a) (by omega)
    obtain ⟨b1, b2⟩ := sq_le (a := b) (by omega)
    obtain ⟨c1, c2⟩ := sq_le (a := c) (by omega)
    obtain ⟨d1, d2⟩ := sq_le (a := d) (by omega)
    obtain ⟨e1, e2⟩ := sq_le (a := e) (by omega)
    obtain ⟨f1, f2⟩ := sq_le (a := f) (by omega)
    obtain ⟨g1, g2⟩ := sq_le (a := g) (by omega)
    obtain ⟨i1, i2⟩ := sq_le (a := i) (by omega)
    clear e3 h3' h3 p1 p2 p3 p4 p5 p6 p7 p8
    have q : (a - a) % 2 = 0 ∧ (b - a) % 2 = 0 ∧ (c - a) % 2 = 0 ∧ (d - a) % 2 = 0 ∧ (e - a) % 2 = 0 ∧ (f - a) % 2 = 0 ∧ (g - a) % 2 = 0 ∧ (i - a) % 2 = 0 := by
      simpa using h1
    obtain ⟨_, q2, q3, q4, q5, q6, q7, q8⟩ := q
    by_cases ho : a % 2 = 1
    · exact odd_roots_in a (mem_odd a1 a2 ho) b (mem_odd b1 b2 (by omega)) c (mem_odd c1 c2 (by omega)) d (mem_odd d1 d2 (by omega)) e (mem_odd e1 e2 (by omega)) f (mem_odd f1 f2 (by omega)) g (mem_odd g1 g2 (by omega)) i (mem_odd i1 i2 (by omega)) h0
    · exact even_roots_in a (mem_even a1 a2 (by omega)) b (mem_even b1 b2 (by omega)) c (mem_even c1 c2 (by omega)) d (mem_even d1 d2 (by omega)) e (mem_even e1 e2 (by omega)) f (mem_even f1 f2 (by omega)) g (mem_even g1 g2 (by omega)) i (mem_even i1 i2 (by omega)) h0
/-- a root: so and no otherwise -/
theorem RT_iff {x : List Int} : x ∈ RT ↔ x.length = 8 ∧ rootB x = true :=
  ⟨fun h => ⟨(RT_row x h).1, List.all_eq_true.mp RT_rootB x h⟩, fun h => RT_of h.1 h.2⟩
theorem RT_sq {x : List Int} (h : x ∈ RT) : mulS x x = 8 := by
  have := (RT_iff.mp h).2
  unfold rootB at this
  rw [Bool.and_eq_true] at this
  simpa using this.2
theorem RT_rw {r : List Int} (h : r ∈ RT) : Rw r := ⟨(RT_row r h).1, fun x hx => by have := (RT_row r h).2 x hx; omega⟩
theorem RT_l8 {r : List Int} (h : r ∈ RT) : r.length = 8 := (RT_row r h).1
/-! ## whole rows -/
theorem sq_mod (a : Int) : (a * a) % 8 = if a % 2 = 0 then (2 * a) % 8 else 1 := by
  have h : (a * a) % 8 = ((a % 8) * (a % 8)) % 8 := Int.mul_emod a a 8
  have h2 : (2 * a) % 8 = (2 * (a % 8)) % 8 := by omega
  have h3 : a % 2 = (a % 8) % 2 := by omega
  rw [h, h2, h3]
  have b1 := Int.emod_nonneg a (show (8 : Int) ≠ 0 by decide)
  have b2 := Int.emod_lt_of_pos a (show (0 : Int) < 8 by decide)
  generalize a % 8 = t at b1 b2
  have : t = 0 ∨ t = 1 ∨ t = 2 ∨ t = 3 ∨ t = 4 ∨ t = 5 ∨ t = 6 ∨ t = 7 := by omega
  rcases this with rfl | rfl | rfl | rfl | rfl | rfl | rfl | rfl <;> decide
theorem Lat.ev8 {a b c d e f g i : Int} (h : Lat [a, b, c, d, e, f, g, i]) : (b - a) % 2 = 0 ∧ (c - a) % 2 = 0 ∧ (d - a) % 2 = 0 ∧ (e - a) % 2 = 0 ∧ (f - a) % 2 = 0 ∧ (g - a) % 2 = 0 ∧ (i - a) % 2 = 0 ∧ (a + (b + (c + (d + (e + (f + (g + i))))))) % 4 = 0 := by
  obtain ⟨_, h1, h2⟩ := h
  have q : (a - a) % 2 = 0 ∧ (b - a) % 2 = 0 ∧ (c - a) % 2 = 0 ∧ (d - a) % 2 = 0 ∧ (e - a) % 2 = 0 ∧ (f - a) % 2 = 0 ∧ (g - a) % 2 = 0 ∧ (i - a) % 2 = 0 := by simpa using h1
  have h2' : (a + (b + (c + (d + (e + (f + (g + (i + 0)))))))) % 4 = 0 := h2
  obtain ⟨_, q2, q3, q4, q5, q6, q7, q8⟩ := q
  exact ⟨q2, q3, q4, q5, q6, q7, q8, by omega⟩
theorem Lat.of8 {a b c d e f g i : Int} (h : (b - a) % 2 = 0 ∧ (c - a) % 2 = 0 ∧ (d - a) % 2 = 0 ∧ (e - a) % 2 = 0 ∧ (f - a) % 2 = 0 ∧ (g - a) % 2 = 0 ∧ (i - a) % 2 = 0 ∧ (a + (b + (c + (d + (e + (f + (g + i))))))) % 4 = 0) : Lat [a, b, c, d, e, f, g, i] := by
  obtain ⟨q2, q3, q4, q5, q6, q7, q8, q9⟩ := h
  refine ⟨rfl, ?_, ?_⟩
  · have : (a - a) % 2 = 0 ∧ (b - a) % 2 = 0 ∧ (c - a) % 2 = 0 ∧ (d - a) % 2 = 0 ∧ (e - a) % 2 = 0 ∧ (f - a) % 2 = 0 ∧ (g - a) % 2 = 0 ∧ (i - a) % 2 = 0 := ⟨by omega, q2, q3, q4, q5, q6, q7, q8⟩
    simpa using this
  · show (a + (b + (c + (d + (e + (f + (g + (i + 0)))))))) % 4 = 0
    omega
theorem Lat.sq {x : List Int} (h : Lat x) : mulS x x % 8 = 0 := by
  match x, h.1, h with
  | [a, b, c, d, e, f, g, i], _, h =>
    obtain ⟨q2, q3, q4, q5, q6, q7, q8, q9⟩ := h.ev8
    show (a * a + (b * b + (c * c + (d * d + (e * e + (f * f + (g * g + (i * i + 0)))))))) % 8 = 0
    have m1 := sq_mod a
    have m2 := sq_mod b
    have m3 := sq_mod c
    have m4 := sq_mod d
    have m5 := sq_mod e
    have m6 := sq_mod f
    have m7 := sq_mod g
    have m8 := sq_mod i
    by_cases ho : a % 2 = 0
    · rw [if_pos (by omega)] at m1 m2 m3 m4 m5 m6 m7 m8
      omega
    · rw [if_neg (by omega)] at m1 m2 m3 m4 m5 m6 m7 m8
      omega
theorem Lat.add {x y : List Int} (hx : Lat x) (hy : Lat y) : Lat (add x y) := by
  match x, hx.1, hx, y, hy.1, hy with
  | [a, b, c, d, e, f, g, i], _, hx, [a', b', c', d', e', f', g', i'], _, hy =>
    obtain ⟨q2, q3, q4, q5, q6, q7, q8, q9⟩ := hx.ev8
    obtain ⟨r2, r3, r4, r5, r6, r7, r8, r9⟩ := hy.ev8
    show Lat [a + a', b + b', c + c', d + d', e + e', f + f', g + g', i + i']
    exact Lat.of8 ⟨by omega, by omega, by omega, by omega, by omega, by omega, by omega, by omega⟩
theorem mul_ev {m a : Int} (h : a % 2 = 0) : (m * a) % 2 = 0 := by rw [Int.mul_emod, h]; simp
theorem Lat.smul {x : List Int} (m : Int) (hx : Lat x) : Lat (smul m x) := by
  match x, hx.1, hx with
  | [a, b, c, d, e, f, g, i], _, hx =>
    obtain ⟨q2, q3, q4, q5, q6, q7, q8, q9⟩ := hx.ev8
    have s : ∀ u : Int, (u - a) % 2 = 0 → (m * u - m * a) % 2 = 0 := fun u hu => by rw [← Int.mul_sub]; exact mul_ev hu
    refine Lat.of8 ⟨s b q2, s c q3, s d q4, s e q5, s f q6, s g q7, s i q8, ?_⟩
    have : m * a + (m * b + (m * c + (m * d + (m * e + (m * f + (m * g + m * i)))))) = m * (a + (b + (c + (d + (e + (f + (g + i))))))) := by simp only [Int.mul_add]
    rw [this, Int.mul_emod, q9]; simp
theorem less_eq {x g : List Int} {m : Int} : ∀ {x g : List Int}, less x g m = Pf.add x (Pf.smul (-m) g)
  | [], [] => rfl
  | [], _ :: _ => rfl
  | _ :: _, [] => rfl
  | a :: x, b :: g => by
    show (a - m * b) :: less x g m = (a + (-m) * b) :: Pf.add x (Pf.smul (-m) g)
    rw [less_eq (x := x) (g := g), Int.neg_mul, Int.sub_eq_add_neg]
    all_goals assumption
theorem Lat.less {x y : List Int} (m : Int) (hx : Lat x) (hy : Lat y) : Lat (less x y m) := by
  rw [less_eq (x := x) (g := y)]
  exact hx.add (hy.smul _)
theorem Lat.mul {x y : List Int} (hx : Lat x) (hy : Lat y) : mulS x y % 4 = 0 := by
  have h := (hx.add hy).sq
  have hl : x.length = y.length := by rw [hx.1, hy.1]
  rw [mulS_add hl, mulS_comm x, mulS_comm y (Pf.add x y), mulS_add hl, mulS_add hl, mulS_comm y x] at h
  have h1 := hx.sq
  have h2 := hy.sq
  omega
theorem Lat.dot {x y : List Int} (hx : Lat x) (hy : Lat y) : mulS x y = 4 * dot x y := by
  have h := hx.mul hy
  unfold Pf.dot
  rw [Int.fdiv_eq_ediv_of_nonneg _ (by decide)]
  omega
theorem RT_lat {x : List Int} (h : x ∈ RT) : Lat x := by
  have hr := (RT_iff.mp h).2
  unfold rootB at hr
  rw [Bool.and_eq_true, Bool.and_eq_true, List.all_eq_true] at hr
  refine ⟨RT_l8 h, fun a ha => by simpa using hr.1.1 a ha, by simpa using hr.1.2⟩
theorem RT_mk {x : List Int} (h : Lat x) (h2 : mulS x x = 8) : x ∈ RT := by
  refine RT_of h.1 ?_
  unfold rootB
  rw [Bool.and_eq_true, Bool.and_eq_true, List.all_eq_true]
  exact ⟨⟨fun a ha => by simpa using h.2.1 a ha, by simpa using h.2.2⟩, by simpa using h2⟩
end Pf

set_option Elab.async false
set_option linter.all false
set_option maxRecDepth 100000
set_option maxHeartbeats 4000000
namespace Pf
open PySem PySem.Spec PyProof.Rows L2

/-! ## mirrors -/
theorem mir_lat {g x : List Int} (hg : g ∈ RT) (hx : Lat x) : Lat (mir g x) := hx.less _ (RT_lat hg)
theorem mulS_mir1 {g x y : List Int} (hg : g ∈ RT) (hx : Lat x) : mulS (mir g x) y = mulS x y - dot g x * mulS g y := mulS_less _ (by rw [hx.1, RT_l8 hg])
theorem mulS_mir {g x y : List Int} (hg : g ∈ RT) (hx : Lat x) (hy : Lat y) : mulS (mir g x) (mir g y) = mulS x y := by
  rw [mulS_mir1 hg hx, mulS_comm x, mulS_comm g (mir g y), mulS_mir1 hg hy, mulS_mir1 hg hy, RT_sq hg]
  have h1 := (RT_lat hg).dot hx
  have h2 := (RT_lat hg).dot hy
  rw [mulS_comm y x, mulS_comm y g, h1, h2]
  generalize dot g x = c
  generalize dot g y = d
  rw [show c * (4 * d - d * 8) = -(4 * (c * d)) by rw [Int.mul_sub, ← Int.mul_assoc, ← Int.mul_assoc, Int.mul_comm c 4, Int.mul_assoc 4 c d, Int.mul_comm (c * d) 8]; omega]
  rw [show d * (4 * c) = 4 * (c * d) by rw [← Int.mul_assoc, Int.mul_comm d 4, Int.mul_assoc, Int.mul_comm d c]]
  omega
theorem dot_of {x y : List Int} {k : Int} (hx : Lat x) (hy : Lat y) (h : mulS x y = 4 * k) : dot x y = k := by
  have := hx.dot hy
  omega
theorem dot_mir {g x y : List Int} (hg : g ∈ RT) (hx : Lat x) (hy : Lat y) : dot (mir g x) (mir g y) = dot x y := by
  unfold dot; rw [mulS_mir hg hx hy]
theorem mir_RT {g x : List Int} (hg : g ∈ RT) (hx : x ∈ RT) : mir g x ∈ RT :=
  RT_mk (mir_lat hg (RT_lat hx)) (by rw [mulS_mir hg (RT_lat hx) (RT_lat hx), RT_sq hx])
theorem less_less : ∀ {x g : List Int} {m : Int}, x.length = g.length → less (less x g m) g (-m) = x
  | [], [], _, _ => rfl
  | a :: x, b :: g, m, h => by
    show ((a - m * b) - (-m) * b) :: less (less x g m) g (-m) = a :: x
    rw [less_less (Nat.succ.inj h : x.length = g.length), Int.neg_mul]
    congr 1
    omega
theorem mir_mir {g x : List Int} (hg : g ∈ RT) (hx : Lat x) : mir g (mir g x) = x := by
  have hd : dot g (mir g x) = -dot g x := by
    refine dot_of (RT_lat hg) (mir_lat hg hx) ?_
    rw [mulS_comm, mulS_mir1 hg hx, mulS_comm x g, RT_sq hg, (RT_lat hg).dot hx]
    omega
  unfold mir at hd ⊢
  rw [hd]
  exact less_less (by rw [hx.1, RT_l8 hg])
theorem map_nodup {α β : Type} {f : α → β} {l : List α} (h : l.Nodup) (hf : ∀ a ∈ l, ∀ b ∈ l, f a = f b → a = b) : (l.map f).Nodup := by
  refine List.pairwise_map.mpr (List.Pairwise.imp_of_mem (fun {a b} ha hb hne e => hne (hf a ha b hb e)) h)
theorem mir_perm {g : List Int} (hg : g ∈ RT) : (RT.map (mir g)).Perm RT := by
  refine (List.perm_ext_iff_of_nodup (map_nodup RT_nodup fun a ha b hb e => ?_) RT_nodup).mpr fun x => ⟨fun h => ?_, fun h => ?_⟩
  · rw [← mir_mir hg (RT_lat ha), e, mir_mir hg (RT_lat hb)]
  · obtain ⟨y, hy, rfl⟩ := List.mem_map.mp h
    exact mir_RT hg hy
  · exact List.mem_map.mpr ⟨mir g x, mir_RT hg h, mir_mir hg (RT_lat h)⟩
/-- counts don't see mirrors -/
theorem count_mir {g : List Int} (hg : g ∈ RT) (P Q : List Int → Bool) (h : ∀ x ∈ RT, P (mir g x) = Q x) : RT.countP P = RT.countP Q := by
  rw [← (mir_perm hg).countP_eq P, List.countP_map]
  refine List.countP_congr fun x hx => ?_
  show P (mir g x) = true ↔ Q x = true
  rw [h x hx]
/-! ## from one to the others -/
theorem diff_root {r k : List Int} (hr : r ∈ RT) (hk : k ∈ RT) (h : mulS r k = 4) : less r k 1 ∈ RT ∧ mir (less r k 1) r = k := by
  have hl : r.length = k.length := by rw [RT_l8 hr, RT_l8 hk]
  have hL := (RT_lat hr).less 1 (RT_lat hk)
  have h1 : mulS (less r k 1) r = 4 := by rw [mulS_less 1 hl, RT_sq hr, mulS_comm k r, h]; rfl
  have hg : less r k 1 ∈ RT := RT_mk hL (by rw [mulS_less 1 hl, mulS_less' 1 hl, mulS_less' 1 hl, RT_sq hr, RT_sq hk, mulS_comm k r, h]; rfl)
  refine ⟨hg, ?_⟩
  unfold mir
  rw [dot_of hL (RT_lat hr) (k := 1) (by rw [h1]; rfl)]
  clear hL h1 hg h
  have : ∀ {r k : List Int}, r.length = k.length → less r (less r k 1) 1 = k := by
    intro r
    induction r with
    | nil => intro k h; cases k <;> first | rfl | cases h
    | cons a r ih =>
      intro k h
      cases k with
      | nil => cases h
      | cons b k =>
        show (a - 1 * (a - 1 * b)) :: less r (less r k 1) 1 = b :: k
        rw [ih (Nat.succ.inj h)]
        congr 1
        omega
  exact this hl
/-- what comes from s0 by steps of product 1 within F -/
def lev (F : List (List Int)) (s0 : List Int) : Nat → List (List Int)
  | 0 => [s0]
  | n + 1 => F.filter fun s => (lev F s0 n).any fun k => mulS s k == 4
theorem lev_ind {F : List (List Int)} {s0 : List Int} {Q : List Int → Prop} (hs : s0 ∈ F) (h0 : Q s0) (hstep : ∀ s ∈ F, ∀ k ∈ F, mulS s k = 4 → Q k → Q s) : ∀ n, ∀ s ∈ lev F s0 n, s ∈ F ∧ Q s
  | 0, s, h => by rw [List.mem_singleton.mp h]; exact ⟨hs, h0⟩
  | n + 1, s, h => by
    obtain ⟨h1, h2⟩ := List.mem_filter.mp h
    obtain ⟨k, hk, e⟩ := List.any_eq_true.mp h2
    obtain ⟨k1, k2⟩ := lev_ind hs h0 hstep n k hk
    exact ⟨h1, hstep s h1 k k1 (by simpa using e) k2⟩
def r0 : List Int := [2, 2, 0, 0, 0, 0, 0, 0]
def s0 : List Int := [-2, 0, 2, 0, 0, 0, 0, 0]
def F0 : List (List Int) := RT.filter fun s => mulS r0 s == -4
theorem r0_in : r0 ∈ RT := by decide +kernel
theorem s0_in : s0 ∈ F0 := by decide +kernel
theorem RT_lev : RT.all (fun r => (lev RT r0 2).contains r || (lev RT r0 1).contains r || (lev RT r0 3).contains r || r == r0) = true := by decide +kernel
theorem F0_lev : F0.all (fun r => (lev F0 s0 2).contains r || (lev F0 s0 1).contains r || (lev F0 s0 3).contains r || r == s0) = true := by decide +kernel
theorem lev_all {F : List (List Int)} {s0 : List Int} (hc : F.all (fun r => (lev F s0 2).contains r || (lev F s0 1).contains r || (lev F s0 3).contains r || r == s0) = true) {Q : List Int → Prop} (hs : s0 ∈ F) (h0 : Q s0) (hstep : ∀ s ∈ F, ∀ k ∈ F, mulS s k = 4 → Q k → Q s) : ∀ r ∈ F, Q r := by
  intro r hr
  have h := List.all_eq_true.mp hc r hr
  simp only [Bool.or_eq_true, List.contains_iff_mem, beq_iff_eq] at h
  rcases h with ((h | h) | h) | h
  · exact (lev_ind hs h0 hstep 2 r h).2
  · exact (lev_ind hs h0 hstep 1 r h).2
  · exact (lev_ind hs h0 hstep 3 r h).2
  · rw [h]; exact h0
/-- what mirrors keep, from one root to all -/
theorem root_ind {Q : List Int → Prop} (h0 : Q r0) (hQ : ∀ g ∈ RT, ∀ r ∈ RT, Q (mir g r) → Q r) : ∀ r ∈ RT, Q r :=
  lev_all RT_lev r0_in h0 fun s hs k hk h q => by
    obtain ⟨g1, g2⟩ := diff_root hs hk h
    exact hQ _ g1 s hs (by rw [g2]; exact q)
theorem F0_mem {s : List Int} : s ∈ F0 ↔ s ∈ RT ∧ mulS r0 s = -4 := by
  unfold F0
  rw [List.mem_filter]
  simp
/-- what mirrors keep, from one pair of product -1 to all -/
theorem pair_ind {Q : List Int → List Int → Prop} (h0 : Q r0 s0) (hQ : ∀ g ∈ RT, ∀ r ∈ RT, ∀ s ∈ RT, Q (mir g r) (mir g s) → Q r s) : ∀ r ∈ RT, ∀ s ∈ RT, mulS r s = -4 → Q r s := by
  have base : ∀ s ∈ F0, Q r0 s := lev_all F0_lev s0_in h0 fun s hs k hk h q => by
    obtain ⟨s1, s2⟩ := F0_mem.mp hs
    obtain ⟨k1, k2⟩ := F0_mem.mp hk
    obtain ⟨g1, g2⟩ := diff_root s1 k1 h
    refine hQ _ g1 r0 r0_in s s1 ?_
    have e : mir (less s k 1) r0 = r0 := by
      have hd : dot (less s k 1) r0 = 0 := dot_of (RT_lat g1) (RT_lat r0_in) (by rw [mulS_less 1 (by rw [RT_l8 s1, RT_l8 k1]), mulS_comm s, mulS_comm k, s2, k2]; rfl)
      unfold mir
      rw [hd]
      have : ∀ {x g : List Int}, x.length = g.length → less x g 0 = x := by
        intro x
        induction x with
        | nil => intro g _; cases g <;> rfl
        | cons a x ih =>
          intro g h
          cases g with
          | nil => cases h
          | cons b g =>
            show (a - 0 * b) :: less x g 0 = _
            rw [ih (Nat.succ.inj h), Int.zero_mul, Int.sub_zero]
      exact this (by rw [RT_l8 r0_in, RT_l8 g1])
    rw [e, g2]
    exact q
  refine root_ind (Q := fun r => ∀ s ∈ RT, mulS r s = -4 → Q r s) (fun s hs h => base s (F0_mem.mpr ⟨hs, h⟩)) fun g hg r hr q s hs h => ?_
  exact hQ g hg r hr s hs (q (mir g s) (mir_RT hg hs) (by rw [mulS_mir hg (RT_lat hr) (RT_lat hs), h]))
/-- 56 have the product -1 with a root -/
theorem count56 : ∀ r ∈ RT, RT.countP (fun s => mulS s r == -4) = 56 :=
  root_ind (by decide +kernel) fun g hg r hr q => by
    rw [← q]
    exact (count_mir hg _ _ fun x hx => by rw [mulS_mir hg (RT_lat hx) (RT_lat hr)]).symm
def S0 : List (List Int) := RT.filter fun x => mulS x r0 == 0 && mulS x s0 == 0
theorem S0_72 : S0.length = 72 := by decide +kernel
theorem S0_20 : S0.all (fun x => S0.countP (fun y => mulS y x == -4) == 20) = true := by decide +kernel
/-- 72 have the product 0 with both of a pair, each of these -1 with 20 others -/
theorem count72 : ∀ r ∈ RT, ∀ s ∈ RT, mulS r s = -4 → RT.countP (fun x => mulS x r == 0 && mulS x s == 0) = 72 ∧ ∀ x ∈ RT, mulS x r = 0 → mulS x s = 0 → RT.countP (fun y => mulS y x == -4 && (mulS y r == 0 && mulS y s == 0)) = 20 := by
  refine pair_ind ⟨?_, fun x hx h1 h2 => ?_⟩ fun g hg r hr s hs q => ⟨?_, fun x hx h1 h2 => ?_⟩
  · rw [List.countP_eq_length_filter]; exact S0_72
  · have hx0 : x ∈ S0 := List.mem_filter.mpr ⟨hx, by simp [h1, h2]⟩
    have := List.all_eq_true.mp S0_20 x hx0
    have e := beq_iff_eq.mp this
    unfold S0 at e
    rw [List.countP_filter] at e
    exact e
  · rw [← q.1]
    exact (count_mir hg _ _ fun x hx => by rw [mulS_mir hg (RT_lat hx) (RT_lat hr), mulS_mir hg (RT_lat hx) (RT_lat hs)]).symm
  · have := q.2 (mir g x) (mir_RT hg hx) (by rw [mulS_mir hg (RT_lat hx) (RT_lat hr), h1]) (by rw [mulS_mir hg (RT_lat hx) (RT_lat hs), h2])
    rw [← this]
    exact (count_mir hg _ _ fun y hy => by rw [mulS_mir hg (RT_lat hy) (RT_lat hr), mulS_mir hg (RT_lat hy) (RT_lat hs), mulS_mir hg (RT_lat hy) (RT_lat hx)]).symm
end Pf

set_option Elab.async false
set_option linter.all false
set_option maxRecDepth 100000
set_option maxHeartbeats 4000000
namespace Pf
open PySem PySem.Spec PyProof.Rows L2

/-! ## sorted, each once -/
def ostep {α : Type} [DecidableEq α] (acc : List α) (x : α) : List α := if acc.getLast? = some x then acc else acc ++ [x]
def once {α : Type} [DecidableEq α] (lt : α → α → Bool) (l : List α) : List α := (l.mergeSort (leL lt)).foldl ostep []
section
variable {α : Type} [DecidableEq α] {lt : α → α → Bool}
theorem ostep_len (acc : List α) (x : α) : (ostep acc x).length ≤ acc.length + 1 := by
  unfold ostep
  split
  · omega
  · simp
theorem ofold_len : ∀ (l acc : List α), (l.foldl ostep acc).length ≤ acc.length + l.length
  | [], acc => by simp
  | x :: l, acc => by
    rw [List.foldl_cons]
    have h1 := ofold_len l (ostep acc x)
    have h2 := ostep_len acc x
    rw [List.length_cons]
    omega
theorem ostep_mem {acc : List α} {x y : α} : y ∈ ostep acc x ↔ y ∈ acc ∨ y = x := by
  unfold ostep
  split
  · rename_i h
    have hx : x ∈ acc := List.mem_of_getLast? h
    constructor
    · exact .inl
    · rintro (h | rfl)
      · exact h
      · exact hx
  · simp
theorem ofold_mem : ∀ (l acc : List α) (y : α), y ∈ l.foldl ostep acc ↔ y ∈ acc ∨ y ∈ l
  | [], acc, y => by simp
  | x :: l, acc, y => by
    rw [List.foldl_cons, ofold_mem l _ y, ostep_mem, List.mem_cons, or_assoc]
theorem ofold_pw (T : Tot lt) : ∀ (l acc : List α), acc.Pairwise (fun a b => lt a b = true) → (∀ a ∈ acc, ∀ b ∈ l, leL lt a b = true) → l.Pairwise (fun a b => leL lt a b = true) → (∀ a ∈ acc, acc.getLast? = some a ∨ ∀ b ∈ l, lt a b = true) → (l.foldl ostep acc).Pairwise fun a b => lt a b = true
  | [], acc, h, _, _, _ => h
  | x :: l, acc, h, h1, h2, h3 => by
    rw [List.foldl_cons]
    obtain ⟨p1, p2⟩ := List.pairwise_cons.mp h2
    unfold ostep
    by_cases e : acc.getLast? = some x
    · rw [if_pos e]
      refine ofold_pw T l acc h (fun a ha b hb => h1 a ha b (List.mem_cons_of_mem _ hb)) p2 fun a ha => ?_
      rcases h3 a ha with q | q
      · exact .inl q
      · exact .inr fun b hb => q b (List.mem_cons_of_mem _ hb)
    · rw [if_neg e]
      have lx : ∀ a ∈ acc, lt a x = true := fun a ha => by
        rcases h3 a ha with q | q
        · have hle := h1 a ha x List.mem_cons_self
          cases hh : lt a x with
          | true => rfl
          | false =>
            unfold leL at hle
            have := T.tri a x hh (by simpa using hle)
            rw [this] at q
            exact absurd q e
        · exact q x List.mem_cons_self
      refine ofold_pw T l (acc ++ [x]) (List.pairwise_append.mpr ⟨h, List.pairwise_singleton _ _, fun a ha b hb => by rw [List.mem_singleton.mp hb]; exact lx a ha⟩) (fun a ha b hb => ?_) p2 fun a ha => ?_
      · rcases List.mem_append.mp ha with ha | ha
        · exact h1 a ha b (List.mem_cons_of_mem _ hb)
        · rw [List.mem_singleton.mp ha]; exact p1 b hb
      · rcases List.mem_append.mp ha with ha | ha
        · refine .inr fun b hb => ?_
          have hxb := p1 b hb
          cases hh : lt a b with
          | true => rfl
          | false =>
            unfold leL at hxb
            rw [Bool.not_eq_true'] at hxb
            cases hh2 : lt b a with
            | true => have := T.tr b a x hh2 (lx a ha); rw [hxb] at this; cases this
            | false =>
              have := T.tri a b hh hh2
              subst this
              have := lx a ha
              rw [hxb] at this; cases this
        · rw [List.mem_singleton.mp ha]
          exact .inl (by simp)
theorem once_pw (T : Tot lt) (l : List α) : (once lt l).Pairwise fun a b => lt a b = true :=
  ofold_pw T _ [] .nil (fun a ha => by cases ha) (sort_pw T l) fun a ha => by cases ha
theorem once_mem (l : List α) (y : α) : y ∈ once lt l ↔ y ∈ l := by
  unfold once
  rw [ofold_mem]
  simp [(List.mergeSort_perm l _).mem_iff]
theorem once_len (l : List α) : (once lt l).length ≤ l.length := by
  have := ofold_len (l.mergeSort (leL lt)) []
  unfold once
  rw [(List.mergeSort_perm l _).length_eq] at this
  simpa using this
/-- strictly ascending lists of the same items are one -/
theorem asc_uniq (T : Tot lt) {l m : List α} (h1 : l.Pairwise fun a b => lt a b = true) (h2 : m.Pairwise fun a b => lt a b = true) (h : ∀ x, x ∈ l ↔ x ∈ m) : l = m :=
  sorted_uniq T (lt_le T h1) (lt_le T h2) ((List.perm_ext_iff_of_nodup (lt_nodup T h1) (lt_nodup T h2)).mpr h)
theorem once_asc (T : Tot lt) {l : List α} (h : l.Pairwise fun a b => lt a b = true) : once lt l = l :=
  asc_uniq T (once_pw T l) h fun x => once_mem l x
theorem once_congr (T : Tot lt) {l m : List α} (h : ∀ x, x ∈ l ↔ x ∈ m) : once lt l = once lt m :=
  asc_uniq T (once_pw T l) (once_pw T m) fun x => by rw [once_mem, once_mem, h]
/-- a function that has the same value at two items each -/
theorem once_half {β : Type} [DecidableEq β] {ltb : β → β → Bool} (T : Tot lt) (Tb : Tot ltb) {l : List α} {τ : α → α} {h : α → β} (hn : l.Nodup) (h1 : ∀ s ∈ l, τ s ∈ l) (h2 : ∀ s ∈ l, τ (τ s) = s) (h3 : ∀ s ∈ l, τ s ≠ s)
    (h4 : ∀ s ∈ l, ∀ t ∈ l, h s = h t ↔ t = s ∨ t = τ s) : 2 * (once ltb (l.map h)).length = l.length := by
  have hτ : (l.map τ).Perm l := by
    refine (List.perm_ext_iff_of_nodup (map_nodup hn fun a ha b hb e => by rw [← h2 a ha, e, h2 b hb]) hn).mpr fun x => ⟨fun hx => ?_, fun hx => ?_⟩
    · obtain ⟨y, hy, rfl⟩ := List.mem_map.mp hx
      exact h1 y hy
    · exact List.mem_map.mpr ⟨τ x, h1 x hx, h2 x hx⟩
  have e1 : (once ltb (l.map h)).length = (l.filter fun s => lt s (τ s)).length := by
    have nd : ((l.filter fun s => lt s (τ s)).map h).Nodup := by
      refine map_nodup (hn.sublist List.filter_sublist) fun a ha b hb e => ?_
      obtain ⟨ha1, ha2⟩ := List.mem_filter.mp ha
      obtain ⟨hb1, hb2⟩ := List.mem_filter.mp hb
      rcases (h4 a ha1 b hb1).mp e with q | q
      · exact q.symm
      · rw [q, h2 a ha1] at hb2
        have := T.asym ha2
        rw [hb2] at this
        cases this
    have pm : (once ltb (l.map h)).Perm ((l.filter fun s => lt s (τ s)).map h) := by
      refine (List.perm_ext_iff_of_nodup (lt_nodup Tb (once_pw Tb _)) nd).mpr fun y => ?_
      rw [once_mem]
      constructor
      · intro hy
        obtain ⟨s, hs, rfl⟩ := List.mem_map.mp hy
        by_cases q : lt s (τ s) = true
        · exact List.mem_map.mpr ⟨s, List.mem_filter.mpr ⟨hs, q⟩, rfl⟩
        · have q2 : lt (τ s) s = true := by
            cases hh : lt (τ s) s with
            | true => rfl
            | false => exact absurd (T.tri _ _ hh (by simpa using q)) (h3 s hs)
          exact List.mem_map.mpr ⟨τ s, List.mem_filter.mpr ⟨h1 s hs, by rw [h2 s hs]; exact q2⟩, ((h4 s hs (τ s) (h1 s hs)).mpr (.inr rfl)).symm⟩
      · intro hy
        obtain ⟨s, hs, rfl⟩ := List.mem_map.mp hy
        exact List.mem_map.mpr ⟨s, (List.mem_filter.mp hs).1, rfl⟩
    rw [pm.length_eq, List.length_map]
  have e2 : l.countP (fun s => lt s (τ s)) = l.countP (fun s => lt (τ s) s) := by
    rw [← hτ.countP_eq (fun s => lt s (τ s)), List.countP_map]
    refine List.countP_congr fun x hx => ?_
    show lt (τ x) (τ (τ x)) = true ↔ _
    rw [h2 x hx]
  have e3 : l.countP (fun s => lt (τ s) s) = l.countP (fun s => !lt s (τ s)) := by
    refine List.countP_congr fun x hx => ?_
    cases q : lt x (τ x) with
    | true => rw [T.asym q]; rfl
    | false =>
      cases hh : lt (τ x) x with
      | true => exact ⟨fun _ => rfl, fun _ => rfl⟩
      | false => exact absurd (T.tri _ _ hh q) (h3 x hx)
  rw [e1, ← List.countP_eq_length_filter]
  have e4 := List.length_eq_countP_add_countP (fun s => lt s (τ s)) (l := l)
  have e5 : l.countP (fun s => !lt s (τ s)) = l.countP (fun a => decide ¬lt a (τ a) = true) := List.countP_congr fun x _ => by simp
  omega
end
/-- counting pairs from both sides -/
theorem count_both {α β : Type} (R : α → β → Bool) : ∀ (l : List α) (m : List β), (l.map fun a => m.countP (R a)).sum = (m.map fun b => l.countP fun a => R a b).sum
  | [], m => by
    have : (m.map fun b => ([] : List α).countP fun a => R a b) = m.map fun _ => 0 := List.map_congr_left fun _ _ => rfl
    rw [this]
    induction m with
    | nil => rfl
    | cons b m ih => simpa using ih rfl
  | a :: l, m => by
    rw [List.map_cons, List.sum_cons, count_both R l m]
    have : ∀ m : List β, m.countP (R a) + (m.map fun b => l.countP fun a => R a b).sum = (m.map fun b => (a :: l).countP fun a => R a b).sum := by
      intro m
      induction m with
      | nil => rfl
      | cons b m ih =>
        rw [List.map_cons, List.map_cons, List.sum_cons, List.sum_cons, ← ih, List.countP_cons, List.countP_cons]
        omega
    exact this m
theorem sum_const {α : Type} {f : α → Nat} {n : Nat} : ∀ {l : List α}, (∀ a ∈ l, f a = n) → (l.map f).sum = l.length * n
  | [], _ => by simp
  | a :: l, h => by
    rw [List.map_cons, List.sum_cons, h a List.mem_cons_self, sum_const fun b hb => h b (List.mem_cons_of_mem _ hb), List.length_cons, Nat.succ_mul]
    omega
end Pf

set_option Elab.async false
set_option linter.all false
set_option maxRecDepth 100000
set_option maxHeartbeats 4000000
namespace Pf
open PySem PySem.Spec PyProof.Rows L2

/-! ## roots of product 0 -/
theorem less_zero : ∀ {x g : List Int}, x.length = g.length → less x g 0 = x
  | [], [], _ => rfl
  | a :: x, b :: g, h => by
    show (a - 0 * b) :: less x g 0 = a :: x
    rw [less_zero (Nat.succ.inj h : x.length = g.length), Int.zero_mul, Int.sub_zero]
theorem mir_fix {g x : List Int} (hg : g ∈ RT) (hx : Lat x) (h : mulS g x = 0) : mir g x = x := by
  unfold mir
  rw [dot_of (RT_lat hg) hx (k := 0) (by rw [h]; rfl)]
  exact less_zero (by rw [hx.1, RT_l8 hg])
/-- the roots of product 0 with those of A -/
def osq (A : List (List Int)) : List (List Int) := RT.filter fun x => A.all fun a => mulS a x == 0
theorem osq_mem {A : List (List Int)} {x : List Int} : x ∈ osq A ↔ x ∈ RT ∧ ∀ a ∈ A, mulS a x = 0 := by
  unfold osq
  rw [List.mem_filter, List.all_eq_true]
  simp
theorem osq_ind {A : List (List Int)} {s0 : List Int} (hA : ∀ a ∈ A, Lat a) (hc : (osq A).all (fun r => (lev (osq A) s0 2).contains r || (lev (osq A) s0 1).contains r || (lev (osq A) s0 3).contains r || r == s0) = true) (hs : s0 ∈ osq A)
    {Q : List Int → Prop} (h0 : Q s0) (hQ : ∀ g ∈ RT, (∀ a ∈ A, mir g a = a) → ∀ x ∈ RT, Q (mir g x) → Q x) : ∀ x ∈ osq A, Q x :=
  lev_all hc hs h0 fun s hs k hk h q => by
    obtain ⟨s1, s2⟩ := osq_mem.mp hs
    obtain ⟨k1, k2⟩ := osq_mem.mp hk
    obtain ⟨g1, g2⟩ := diff_root s1 k1 h
    refine hQ _ g1 (fun a ha => mir_fix g1 (hA a ha) ?_) s s1 (by rw [g2]; exact q)
    rw [mulS_less 1 (by rw [RT_l8 s1, RT_l8 k1]), mulS_comm s, mulS_comm k, s2 a ha, k2 a ha]
    rfl
def b0 : List Int := [2, -2, 0, 0, 0, 0, 0, 0]
def c0 : List Int := [0, 0, 2, 2, 0, 0, 0, 0]
theorem b0_in : b0 ∈ osq [r0] := by decide +kernel
theorem c0_in : c0 ∈ osq [r0, b0] := by decide +kernel
theorem osq1_lev : (osq [r0]).all (fun r => (lev (osq [r0]) b0 2).contains r || (lev (osq [r0]) b0 1).contains r || (lev (osq [r0]) b0 3).contains r || r == b0) = true := by decide +kernel
theorem osq2_lev : (osq [r0, b0]).all (fun r => (lev (osq [r0, b0]) c0 2).contains r || (lev (osq [r0, b0]) c0 1).contains r || (lev (osq [r0, b0]) c0 3).contains r || r == c0) = true := by decide +kernel
theorem mulS_mirR {g x y : List Int} (hg : g ∈ RT) (hx : x ∈ RT) (hy : y ∈ RT) : mulS (mir g x) (mir g y) = mulS x y := mulS_mir hg (RT_lat hx) (RT_lat hy)
theorem opair_ind {Q : List Int → List Int → Prop} (h0 : Q r0 b0) (hQ : ∀ g ∈ RT, ∀ a ∈ RT, ∀ b ∈ RT, Q (mir g a) (mir g b) → Q a b) : ∀ a ∈ RT, ∀ b ∈ RT, mulS a b = 0 → Q a b := by
  have s2 : ∀ b ∈ osq [r0], Q r0 b := osq_ind (by simpa using RT_lat r0_in) osq1_lev b0_in h0 fun g hg hf x hx q => hQ g hg r0 r0_in x hx (by rw [hf r0 (by simp)]; exact q)
  refine root_ind (Q := fun a => ∀ b ∈ RT, mulS a b = 0 → Q a b) (fun b hb h => s2 b (osq_mem.mpr ⟨hb, by simpa using h⟩)) fun g hg a ha q b hb h => ?_
  exact hQ g hg a ha b hb (q _ (mir_RT hg hb) (by rw [mulS_mirR hg ha hb, h]))
/-- what mirrors keep, from one triple of product 0 to all -/
theorem otri_ind {Q : List Int → List Int → List Int → Prop} (h0 : Q r0 b0 c0) (hQ : ∀ g ∈ RT, ∀ a ∈ RT, ∀ b ∈ RT, ∀ c ∈ RT, Q (mir g a) (mir g b) (mir g c) → Q a b c) :
    ∀ a ∈ RT, ∀ b ∈ RT, ∀ c ∈ RT, mulS a b = 0 → mulS a c = 0 → mulS b c = 0 → Q a b c := by
  have hb0 := (osq_mem.mp b0_in).1
  have s3 : ∀ c ∈ osq [r0, b0], Q r0 b0 c := osq_ind (by
    intro a ha
    rcases List.mem_cons.mp ha with rfl | ha
    · exact RT_lat r0_in
    · rw [List.mem_singleton.mp ha]; exact RT_lat hb0) osq2_lev c0_in h0 fun g hg hf x hx q => hQ g hg r0 r0_in b0 hb0 x hx (by rw [hf r0 (by simp), hf b0 (by simp)]; exact q)
  intro a ha b hb c hc h1 h2 h3
  refine opair_ind (Q := fun a b => ∀ c ∈ RT, mulS a c = 0 → mulS b c = 0 → Q a b c) (fun c hc h2 h3 => s3 c (osq_mem.mpr ⟨hc, ?_⟩)) (fun g hg a ha b hb q c hc h2 h3 => ?_) a ha b hb h1 c hc h2 h3
  · intro a ha
    rcases List.mem_cons.mp ha with rfl | ha
    · exact h2
    · rw [List.mem_singleton.mp ha]; exact h3
  · exact hQ g hg a ha b hb c hc (q _ (mir_RT hg hc) (by rw [mulS_mirR hg ha hc, h2]) (by rw [mulS_mirR hg hb hc, h3]))
theorem osq_mir {g : List Int} (hg : g ∈ RT) {A : List (List Int)} (hA : ∀ a ∈ A, Lat a) : (osq (A.map (mir g))).length = (osq A).length := by
  unfold osq
  rw [← List.countP_eq_length_filter, ← List.countP_eq_length_filter]
  refine count_mir hg _ _ fun x hx => ?_
  rw [List.all_map]
  rw [Bool.eq_iff_iff, List.all_eq_true, List.all_eq_true]
  have e : ∀ a ∈ A, mulS (mir g a) (mir g x) = mulS a x := fun a ha => mulS_mir hg (hA a ha) (RT_lat hx)
  exact ⟨fun h a ha => by rw [← e a ha]; exact h a ha, fun h a ha => by show (mulS (mir g a) (mir g x) == 0) = true; rw [e a ha]; exact h a ha⟩
theorem o126 : ∀ a ∈ RT, (osq [a]).length = 126 :=
  root_ind (by decide +kernel) fun g hg a ha q => by
    rw [← q]
    exact (osq_mir hg (A := [a]) (by simpa using RT_lat ha)).symm
theorem lat2 {a b : List Int} (ha : a ∈ RT) (hb : b ∈ RT) : ∀ x ∈ [a, b], Lat x := by
  intro x hx
  rcases List.mem_cons.mp hx with rfl | hx
  · exact RT_lat ha
  · rw [List.mem_singleton.mp hx]; exact RT_lat hb
theorem lat3 {a b c : List Int} (ha : a ∈ RT) (hb : b ∈ RT) (hc : c ∈ RT) : ∀ x ∈ [a, b, c], Lat x := by
  intro x hx
  rcases List.mem_cons.mp hx with rfl | hx
  · exact RT_lat ha
  · exact lat2 hb hc x hx
theorem lat4 {a b c d : List Int} (ha : a ∈ RT) (hb : b ∈ RT) (hc : c ∈ RT) (hd : d ∈ RT) : ∀ x ∈ [a, b, c, d], Lat x := by
  intro x hx
  rcases List.mem_cons.mp hx with rfl | hx
  · exact RT_lat ha
  · exact lat3 hb hc hd x hx
theorem o60 : ∀ a ∈ RT, ∀ b ∈ RT, mulS a b = 0 → (osq [a, b]).length = 60 :=
  opair_ind (by decide +kernel) fun g hg a ha b hb q => by
    rw [← q]
    exact (osq_mir hg (A := [a, b]) (lat2 ha hb)).symm
def O3 : List (List Int) := osq [r0, b0, c0]
theorem O3_26 : O3.length = 26 := by decide +kernel
theorem O3_8 : O3.countP (fun x => O3.countP (fun y => mulS x y == 0) == 8) = 24 := by decide +kernel
theorem O3_24 : O3.countP (fun x => O3.countP (fun y => mulS x y == 0) == 24) = 2 := by decide +kernel
theorem osq4 {a b c x : List Int} : (osq [a, b, c, x]).length = (osq [a, b, c]).countP fun y => mulS x y == 0 := by
  unfold osq
  rw [List.countP_filter, ← List.countP_eq_length_filter]
  refine List.countP_congr fun y _ => ?_
  simp only [List.all_cons, List.all_nil, Bool.and_true, Bool.and_eq_true]
  constructor
  · rintro ⟨h1, h2, h3, h4⟩; exact ⟨h4, h1, h2, h3⟩
  · rintro ⟨h4, h1, h2, h3⟩; exact ⟨h1, h2, h3, h4⟩
theorem o26 : ∀ a ∈ RT, ∀ b ∈ RT, ∀ c ∈ RT, mulS a b = 0 → mulS a c = 0 → mulS b c = 0 → (osq [a, b, c]).length = 26 ∧ (∀ n, n = 8 ∨ n = 24 → (osq [a, b, c]).countP (fun x => (osq [a, b, c, x]).length == n) = if n = 8 then 24 else 2) := by
  refine otri_ind ⟨O3_26, fun n hn => ?_⟩ fun g hg a ha b hb c hc q => ⟨?_, fun n hn => ?_⟩
  · have e : ∀ m, (osq [r0, b0, c0]).countP (fun x => (osq [r0, b0, c0, x]).length == m) = O3.countP (fun x => O3.countP (fun y => mulS x y == 0) == m) := fun m => List.countP_congr fun x _ => by rw [osq4]; rfl
    rcases hn with rfl | rfl
    · rw [e, O3_8]; rfl
    · rw [e, O3_24]; rfl
  · rw [← q.1]
    exact (osq_mir hg (A := [a, b, c]) (lat3 ha hb hc)).symm
  · rw [← q.2 n hn]
    unfold osq
    rw [List.countP_filter, List.countP_filter]
    refine (count_mir hg _ _ fun x hx => ?_).symm
    have h1 : (List.filter (fun y => [mir g a, mir g b, mir g c, mir g x].all fun z => mulS z y == 0) RT).length = (List.filter (fun y => [a, b, c, x].all fun z => mulS z y == 0) RT).length := osq_mir hg (A := [a, b, c, x]) (lat4 ha hb hc hx)
    rw [h1]
    simp only [List.all_cons, List.all_nil, Bool.and_true]
    rw [mulS_mirR hg ha hx, mulS_mirR hg hb hx, mulS_mirR hg hc hx]
end Pf

set_option Elab.async false
set_option linter.all false
set_option maxRecDepth 100000
set_option maxHeartbeats 4000000
namespace Pf
open PySem PySem.Spec PyProof.Rows L2

/-! ## frames -/
def neg (x : List Int) : List Int := smul (-1) x
theorem neg_lat {x : List Int} (h : Lat x) : Lat (neg x) := h.smul _
theorem mulS_neg (x y : List Int) : mulS (neg x) y = -mulS x y := by unfold neg; rw [mulS_smul]; omega
theorem mulS_neg' (x y : List Int) : mulS x (neg y) = -mulS x y := by rw [mulS_comm, mulS_neg, mulS_comm]
theorem neg_neg : ∀ x : List Int, neg (neg x) = x
  | [] => rfl
  | a :: x => by
    show (-1 * (-1 * a)) :: neg (neg x) = a :: x
    rw [neg_neg x]
    congr 1
    omega
theorem neg_RT {x : List Int} (h : x ∈ RT) : neg x ∈ RT := RT_mk (neg_lat (RT_lat h)) (by rw [mulS_neg, mulS_neg', RT_sq h]; rfl)
theorem less_smul : ∀ {x g : List Int} (m k : Int), less (smul m x) g (m * k) = smul m (less x g k)
  | [], [], _, _ => rfl
  | [], _ :: _, _, _ => rfl
  | _ :: _, [], _, _ => rfl
  | a :: x, b :: g, m, k => by
    show (m * a - m * k * b) :: less (smul m x) g (m * k) = (m * (a - k * b)) :: smul m (less x g k)
    rw [less_smul m k, Int.mul_sub, Int.mul_assoc]
theorem mir_smul {g x : List Int} (m : Int) (hg : g ∈ RT) (hx : Lat x) : mir g (smul m x) = smul m (mir g x) := by
  unfold mir
  have : dot g (smul m x) = m * dot g x := dot_of (RT_lat hg) (hx.smul m) (by rw [mulS_comm, mulS_smul, mulS_comm, (RT_lat hg).dot hx, Int.mul_left_comm])
  rw [this, less_smul]
theorem less_add : ∀ {x y g : List Int} (j k : Int), less (add x y) g (j + k) = add (less x g j) (less y g k)
  | [], [], g, _, _ => by cases g <;> rfl
  | [], _ :: _, g, _, _ => by cases g <;> rfl
  | _ :: _, [], g, _, _ => by cases g <;> rfl
  | a :: x, b :: y, [], _, _ => rfl
  | a :: x, b :: y, c :: g, j, k => by
    show (a + b - (j + k) * c) :: less (add x y) g (j + k) = (a - j * c + (b - k * c)) :: add (less x g j) (less y g k)
    rw [less_add j k, Int.add_mul]
    congr 1
    omega
theorem mir_add {g x y : List Int} (hg : g ∈ RT) (hx : Lat x) (hy : Lat y) : mir g (add x y) = add (mir g x) (mir g y) := by
  unfold mir
  have : dot g (add x y) = dot g x + dot g y := dot_of (RT_lat hg) (hx.add hy) (by rw [mulS_comm, mulS_add (by rw [hx.1, hy.1]), mulS_comm x, mulS_comm y, (RT_lat hg).dot hx, (RT_lat hg).dot hy, Int.mul_add])
  rw [this, less_add]
theorem add_rc : ∀ a b c : List Int, add (add a b) c = add (add a c) b
  | [], b, c => by cases b <;> cases c <;> rfl
  | _ :: _, [], c => by cases c <;> rfl
  | _ :: _, _ :: _, [] => rfl
  | x :: a, y :: b, z :: c => by
    show (x + y + z) :: add (add a b) c = (x + z + y) :: add (add a c) b
    rw [add_rc a b c]
    congr 1
    omega
/-- twice a row -/
def Tw (x : List Int) : Prop := ∃ h, Lat h ∧ x = smul 2 h
def half (x : List Int) : List Int := x.map fun a => a.fdiv 2
def twb (x : List Int) : Bool := x.all (fun a => a.fmod 2 == 0) && decide (Lat (half x))
theorem smul_half : ∀ {x : List Int}, (∀ a ∈ x, a.fmod 2 = 0) → smul 2 (half x) = x
  | [], _ => rfl
  | a :: x, h => by
    show (2 * a.fdiv 2) :: smul 2 (half x) = a :: x
    rw [smul_half fun b hb => h b (List.mem_cons_of_mem _ hb)]
    have h1 := h a List.mem_cons_self
    rw [Int.fmod_eq_emod_of_nonneg _ (by decide)] at h1
    rw [Int.fdiv_eq_ediv_of_nonneg _ (by decide)]
    congr 1
    omega
theorem half_smul : ∀ x : List Int, half (smul 2 x) = x
  | [] => rfl
  | a :: x => by
    show (2 * a).fdiv 2 :: half (smul 2 x) = a :: x
    rw [half_smul x, Int.fdiv_eq_ediv_of_nonneg _ (by decide)]
    congr 1
    omega
theorem tw_iff {x : List Int} : twb x = true ↔ Tw x := by
  unfold twb
  rw [Bool.and_eq_true, List.all_eq_true, decide_eq_true_eq]
  constructor
  · rintro ⟨h1, h2⟩
    exact ⟨_, h2, (smul_half fun a ha => by simpa using h1 a ha).symm⟩
  · rintro ⟨h, hl, rfl⟩
    refine ⟨fun a ha => ?_, by rw [half_smul]; exact hl⟩
    obtain ⟨b, _, rfl⟩ := List.mem_map.mp ha
    rw [Int.fmod_eq_emod_of_nonneg _ (by decide)]
    simp
theorem smul_add (m : Int) : ∀ x y : List Int, smul m (add x y) = add (smul m x) (smul m y)
  | [], y => by cases y <;> rfl
  | _ :: _, [] => rfl
  | a :: x, b :: y => by
    show (m * (a + b)) :: smul m (add x y) = (m * a + m * b) :: add (smul m x) (smul m y)
    rw [smul_add m x y, Int.mul_add]
theorem add_back : ∀ {x y : List Int}, x.length = y.length → add (add x y) (smul 2 (neg y)) = add x (neg y)
  | [], [], _ => rfl
  | a :: x, b :: y, h => by
    show (a + b + 2 * (-1 * b)) :: add (add x y) (smul 2 (neg y)) = (a + -1 * b) :: add x (neg y)
    rw [add_back (Nat.succ.inj h : x.length = y.length)]
    congr 1
    omega
theorem add_undo : ∀ {x y : List Int}, x.length = y.length → add (add x y) (neg y) = x
  | [], [], _ => rfl
  | a :: x, b :: y, h => by
    show (a + b + -1 * b) :: add (add x y) (neg y) = a :: x
    rw [add_undo (Nat.succ.inj h : x.length = y.length)]
    congr 1
    omega
theorem neg_smul (m : Int) (x : List Int) : neg (smul m x) = smul m (neg x) := by
  unfold neg smul
  rw [List.map_map, List.map_map]
  refine List.map_congr_left fun a _ => ?_
  show -1 * (m * a) = m * (-1 * a)
  rw [Int.mul_left_comm]
theorem tw_mod {x v : List Int} (hx : Lat x) (hv : Lat v) : Tw (add x (smul 2 v)) ↔ Tw x := by
  constructor
  · rintro ⟨h, hl, e⟩
    refine ⟨add h (neg v), hl.add (neg_lat hv), ?_⟩
    rw [smul_add, ← e, ← neg_smul, add_undo (by rw [hx.1, (hv.smul 2).1])]
  · rintro ⟨h, hl, rfl⟩
    exact ⟨add h v, hl.add hv, (smul_add ..).symm⟩
theorem tw_mir {g x : List Int} (hg : g ∈ RT) (hx : Lat x) : Tw (mir g x) ↔ Tw x := by
  have one : ∀ {x : List Int}, Lat x → Tw x → Tw (mir g x) := by
    rintro x _ ⟨h, hl, rfl⟩
    exact ⟨mir g h, mir_lat hg hl, mir_smul 2 hg hl⟩
  exact ⟨fun h => by rw [← mir_mir hg hx]; exact one (mir_lat hg hx) h, one hx⟩
/-- the sets of T whose sum, put to acc, is twice a row; k are taken -/
def cnt (p : Nat → Bool) : List (List Int) → List Int → Nat → Nat
  | [], acc, k => if twb acc && p k then 1 else 0
  | t :: T, acc, k => cnt p T acc k + cnt p T (add acc t) (k + 1)
section
variable {p : Nat → Bool}
theorem cnt_mod {v : List Int} (hv : Lat v) : ∀ (T : List (List Int)) (acc : List Int) (k : Nat), (∀ t ∈ T, Lat t) → Lat acc → cnt p T (add acc (smul 2 v)) k = cnt p T acc k
  | [], acc, k, _, ha => by
    have : twb (add acc (smul 2 v)) = twb acc := by rw [Bool.eq_iff_iff, tw_iff, tw_iff]; exact tw_mod ha hv
    unfold cnt
    rw [this]
  | t :: T, acc, k, hT, ha => by
    unfold cnt
    have ht := hT t List.mem_cons_self
    have hT' : ∀ t ∈ T, Lat t := fun t h => hT t (List.mem_cons_of_mem _ h)
    rw [cnt_mod hv T acc k hT' ha, add_rc, cnt_mod hv T (add acc t) (k + 1) hT' (ha.add ht)]
theorem cnt_neg {t : List Int} {T : List (List Int)} {acc : List Int} {k : Nat} (hT : ∀ t ∈ T, Lat t) (ht : Lat t) (ha : Lat acc) : cnt p (neg t :: T) acc k = cnt p (t :: T) acc k := by
  show cnt p T acc k + cnt p T (add acc (neg t)) (k + 1) = cnt p T acc k + cnt p T (add acc t) (k + 1)
  rw [← add_back (by rw [ha.1, ht.1]), cnt_mod (neg_lat ht) T _ _ hT (ha.add ht)]
theorem cnt_perm {T U : List (List Int)} (h : T.Perm U) : ∀ (acc : List Int) (k : Nat), cnt p T acc k = cnt p U acc k := by
  induction h with
  | nil => exact fun _ _ => rfl
  | cons x _ ih =>
    intro acc k
    show cnt p _ acc k + cnt p _ (add acc x) (k + 1) = cnt p _ acc k + cnt p _ (add acc x) (k + 1)
    rw [ih, ih]
  | swap x y l =>
    intro acc k
    show cnt p l acc k + cnt p l (add acc x) (k + 1) + (cnt p l (add acc y) (k + 1) + cnt p l (add (add acc y) x) (k + 1 + 1)) = cnt p l acc k + cnt p l (add acc y) (k + 1) + (cnt p l (add acc x) (k + 1) + cnt p l (add (add acc x) y) (k + 1 + 1))
    rw [add_rc acc y x]
    omega
  | trans _ _ h1 h2 => exact fun acc k => (h1 acc k).trans (h2 acc k)
theorem cnt_mir {g : List Int} (hg : g ∈ RT) : ∀ (T : List (List Int)) (acc : List Int) (k : Nat), (∀ t ∈ T, Lat t) → Lat acc → cnt p (T.map (mir g)) (mir g acc) k = cnt p T acc k
  | [], acc, k, _, ha => by
    have : twb (mir g acc) = twb acc := by rw [Bool.eq_iff_iff, tw_iff, tw_iff]; exact tw_mir hg ha
    unfold cnt
    show (if twb (mir g acc) && p k then 1 else 0) = _
    rw [this]
  | t :: T, acc, k, hT, ha => by
    have ht := hT t List.mem_cons_self
    have hT' : ∀ t ∈ T, Lat t := fun t h => hT t (List.mem_cons_of_mem _ h)
    show cnt p (T.map (mir g)) (mir g acc) k + cnt p (T.map (mir g)) (add (mir g acc) (mir g t)) (k + 1) = cnt p T acc k + cnt p T (add acc t) (k + 1)
    rw [← mir_add hg ha ht, cnt_mir hg T acc k hT' ha, cnt_mir hg T _ _ hT' (ha.add ht)]
/-- up to signs -/
theorem cnt_sign (σ : List Int → Bool) : ∀ (T : List (List Int)) (acc : List Int) (k : Nat), (∀ t ∈ T, Lat t) → Lat acc → cnt p (T.map fun t => if σ t then t else neg t) acc k = cnt p T acc k
  | [], _, _, _, _ => rfl
  | t :: T, acc, k, hT, ha => by
    have ht := hT t List.mem_cons_self
    have hT' : ∀ t ∈ T, Lat t := fun t h => hT t (List.mem_cons_of_mem _ h)
    have hm : ∀ u ∈ T.map fun t => if σ t then t else neg t, Lat u := fun u hu => by
      obtain ⟨t, ht, rfl⟩ := List.mem_map.mp hu
      split
      · exact hT' t ht
      · exact neg_lat (hT' t ht)
    rw [List.map_cons]
    have e : cnt p ((if σ t then t else neg t) :: T.map fun t => if σ t then t else neg t) acc k = cnt p (t :: T.map fun t => if σ t then t else neg t) acc k := by
      split
      · rfl
      · exact cnt_neg hm ht ha
    rw [e]
    show cnt p (T.map fun t => if σ t then t else neg t) acc k + cnt p (T.map fun t => if σ t then t else neg t) (add acc t) (k + 1) = cnt p T acc k + cnt p T (add acc t) (k + 1)
    rw [cnt_sign σ T acc k hT' ha, cnt_sign σ T _ _ hT' (ha.add ht)]
end
def z8 : List Int := [0, 0, 0, 0, 0, 0, 0, 0]
theorem z8_lat : Lat z8 := by decide
theorem mir_z8 {g : List Int} (hg : g ∈ RT) : mir g z8 = z8 := mir_fix hg z8_lat (by
  match g, RT_l8 hg with
  | [a, b, c, d, e, f, g, h], _ => simp [mulS, z8])
/-- eight roots, any two of product 0, with 16 such sets, 14 of four -/
structure Fr (F : List (List Int)) : Prop where
  len : F.length = 8
  rt : ∀ x ∈ F, x ∈ RT
  pw : F.Pairwise fun x y => mulS x y = 0
  all : cnt (fun _ => true) F z8 0 = 16
  four : cnt (fun k => k == 4) F z8 0 = 14
theorem Fr.mir {g : List Int} {F : List (List Int)} (h : Fr F) (hg : g ∈ RT) : Fr (F.map (mir g)) := by
  have hl : ∀ t ∈ F, Lat t := fun t ht => RT_lat (h.rt t ht)
  refine ⟨by rw [List.length_map, h.len], fun x hx => ?_, ?_, ?_, ?_⟩
  · obtain ⟨y, hy, rfl⟩ := List.mem_map.mp hx
    exact mir_RT hg (h.rt y hy)
  · refine List.pairwise_map.mpr (h.pw.imp_of_mem fun {x y} hx hy q => ?_)
    rw [mulS_mirR hg (h.rt x hx) (h.rt y hy), q]
  · have := cnt_mir (p := fun _ => true) hg F z8 0 hl z8_lat
    rw [mir_z8 hg] at this
    rw [this, h.all]
  · have := cnt_mir (p := fun k => k == 4) hg F z8 0 hl z8_lat
    rw [mir_z8 hg] at this
    rw [this, h.four]
def E0 : List Int := [0, 0, 2, -2, 0, 0, 0, 0]
def X1 : List (List Int) := [E0, [0, 0, 0, 0, 2, 2, 0, 0], [0, 0, 0, 0, 2, -2, 0, 0], [0, 0, 0, 0, 0, 0, 2, 2], [0, 0, 0, 0, 0, 0, 2, -2]]
def X2 : List (List Int) := [E0, [0, 0, 0, 0, 2, 0, 2, 0], [0, 0, 0, 0, 2, 0, -2, 0], [0, 0, 0, 0, 0, 2, 0, 2], [0, 0, 0, 0, 0, 2, 0, -2]]
def X3 : List (List Int) := [E0, [0, 0, 0, 0, 2, 0, 0, 2], [0, 0, 0, 0, 2, 0, 0, -2], [0, 0, 0, 0, 0, 2, 2, 0], [0, 0, 0, 0, 0, 2, -2, 0]]
def XS : List (List (List Int)) := [X1, X2, X3]
def inPM (X : List (List Int)) (x : List Int) : Bool := X.contains x || X.contains (neg x)
def pwB : List (List Int) → Bool
  | [] => true
  | x :: l => (l.all fun y => mulS x y == 0) && pwB l
theorem pwB_ok : ∀ {l : List (List Int)}, pwB l = true → l.Pairwise fun x y => mulS x y = 0
  | [], _ => .nil
  | x :: l, h => by
    have h' : ((l.all fun y => mulS x y == 0) && pwB l) = true := h
    rw [Bool.and_eq_true, List.all_eq_true] at h'
    exact List.pairwise_cons.mpr ⟨fun y hy => by simpa using h'.1 y hy, pwB_ok h'.2⟩
def frB (F : List (List Int)) : Bool := F.length == 8 && (F.all fun x => RT.contains x) && pwB F && cnt (fun _ => true) F z8 0 == 16 && cnt (fun k => k == 4) F z8 0 == 14
theorem frB_ok {F : List (List Int)} (h : frB F = true) : Fr F := by
  unfold frB at h
  simp only [Bool.and_eq_true, beq_iff_eq, List.all_eq_true, List.contains_iff_mem] at h
  obtain ⟨⟨⟨⟨h1, h2⟩, h3⟩, h4⟩, h5⟩ := h
  exact ⟨h1, h2, pwB_ok h3, h4, h5⟩
theorem XS_fr : XS.all (fun X => frB (r0 :: b0 :: c0 :: X)) = true := by decide +kernel
theorem O3_one : O3.all (fun x => inPM [E0] x || XS.any fun X => inPM X x) = true := by decide +kernel
theorem O3_two : XS.all (fun X => inPM X E0 && O3.all fun x => !inPM X x || (inPM [E0] x || O3.all fun y => !(mulS x y == 0) || inPM X y)) = true := by decide +kernel
theorem inPM_iff {X : List (List Int)} {x : List Int} : inPM X x = true ↔ x ∈ X ∨ neg x ∈ X := by
  unfold inPM
  rw [Bool.or_eq_true, List.contains_iff_mem, List.contains_iff_mem]
theorem inPM_E0 {X : List (List Int)} {x : List Int} (hX : X ∈ XS) (h : inPM [E0] x = true) : inPM X x = true := by
  have he : E0 ∈ X := by
    rcases List.mem_cons.mp hX with rfl | hX
    · exact List.mem_cons_self
    · rcases List.mem_cons.mp hX with rfl | hX
      · exact List.mem_cons_self
      · rw [List.mem_singleton.mp hX]; exact List.mem_cons_self
  rcases inPM_iff.mp h with h | h
  · exact inPM_iff.mpr (.inl (by rw [List.mem_singleton.mp h]; exact he))
  · exact inPM_iff.mpr (.inr (by rw [List.mem_singleton.mp h]; exact he))
theorem pw_or : ∀ {T : List (List Int)}, T.Pairwise (fun x y => mulS x y = 0) → ∀ x ∈ T, ∀ y ∈ T, x = y ∨ mulS x y = 0
  | [], _, x, hx, _, _ => by cases hx
  | a :: T, h, x, hx, y, hy => by
    obtain ⟨p, h'⟩ := List.pairwise_cons.mp h
    rcases List.mem_cons.mp hx with e1 | h1
    · rcases List.mem_cons.mp hy with e2 | h2
      · exact .inl (by rw [e1, e2])
      · exact .inr (by rw [e1]; exact p y h2)
    · rcases List.mem_cons.mp hy with e2 | h2
      · exact .inr (by rw [e2, mulS_comm]; exact p x h1)
      · exact pw_or h' x h1 y h2
theorem frame_base : ∀ T : List (List Int), (∀ x ∈ T, x ∈ osq [r0, b0, c0]) → T.Pairwise (fun x y => mulS x y = 0) → ∃ X, Fr (r0 :: b0 :: c0 :: X) ∧ ∀ x ∈ T, x ∈ X ∨ neg x ∈ X := by
  intro T hT hp
  by_cases q : ∃ x ∈ T, inPM [E0] x = false
  · obtain ⟨x, hx, hxe⟩ := q
    have h1 := List.all_eq_true.mp O3_one x (hT x hx)
    rw [hxe, Bool.false_or, List.any_eq_true] at h1
    obtain ⟨X, hX, hxX⟩ := h1
    refine ⟨X, frB_ok (List.all_eq_true.mp XS_fr X hX), fun y hy => inPM_iff.mp ?_⟩
    have h2 := List.all_eq_true.mp O3_two X hX
    rw [Bool.and_eq_true, List.all_eq_true] at h2
    have h3 := h2.2 x (hT x hx)
    rw [hxX, hxe, Bool.not_true, Bool.false_or, Bool.false_or, List.all_eq_true] at h3
    rcases pw_or hp x hx y hy with rfl | h4
    · exact hxX
    · have := h3 y (hT y hy)
      rw [h4] at this
      simpa using this
  · refine ⟨X1, frB_ok (List.all_eq_true.mp XS_fr X1 (by simp [XS])), fun y hy => inPM_iff.mp (inPM_E0 (by simp [XS]) ?_)⟩
    cases e : inPM [E0] y with
    | true => rfl
    | false => exact absurd ⟨y, hy, e⟩ q
theorem frame_tri : ∀ a ∈ RT, ∀ b ∈ RT, ∀ c ∈ RT, mulS a b = 0 → mulS a c = 0 → mulS b c = 0 → ∀ T : List (List Int), (∀ x ∈ T, x ∈ osq [a, b, c]) → T.Pairwise (fun x y => mulS x y = 0) → ∃ X, Fr (a :: b :: c :: X) ∧ ∀ x ∈ T, x ∈ X ∨ neg x ∈ X := by
  refine otri_ind frame_base fun g hg a ha b hb c hc q T hT hp => ?_
  have hr : ∀ x ∈ T, x ∈ RT := fun x hx => (osq_mem.mp (hT x hx)).1
  have hm : ∀ x ∈ T.map (mir g), x ∈ osq [mir g a, mir g b, mir g c] := by
    intro x hx
    obtain ⟨y, hy, rfl⟩ := List.mem_map.mp hx
    obtain ⟨h1, h2⟩ := osq_mem.mp (hT y hy)
    refine osq_mem.mpr ⟨mir_RT hg h1, fun z hz => ?_⟩
    have e : [mir g a, mir g b, mir g c] = [a, b, c].map (mir g) := rfl
    rw [e] at hz
    obtain ⟨u, hu, rfl⟩ := List.mem_map.mp hz
    rw [mulS_mir hg (lat3 ha hb hc u hu) (RT_lat h1)]
    exact h2 u hu
  obtain ⟨X, hX, h⟩ := q (T.map (mir g)) hm (List.pairwise_map.mpr (hp.imp_of_mem fun {x y} hx hy q => by rw [mulS_mirR hg (hr x hx) (hr y hy), q]))
  refine ⟨X.map (mir g), ?_, fun x hx => ?_⟩
  · have := hX.mir hg
    rw [List.map_cons, List.map_cons, List.map_cons, mir_mir hg (RT_lat ha), mir_mir hg (RT_lat hb), mir_mir hg (RT_lat hc)] at this
    exact this
  · rcases h _ (List.mem_map.mpr ⟨x, hx, rfl⟩) with e | e
    · exact .inl (List.mem_map.mpr ⟨_, e, mir_mir hg (RT_lat (hr x hx))⟩)
    · refine .inr (List.mem_map.mpr ⟨_, e, ?_⟩)
      unfold neg
      rw [mir_smul _ hg (mir_lat hg (RT_lat (hr x hx))), mir_mir hg (RT_lat (hr x hx))]
/-- roots of product 0 are in a frame, up to signs -/
theorem frame_of : ∀ T : List (List Int), (∀ x ∈ T, x ∈ RT) → T.Pairwise (fun x y => mulS x y = 0) → ∃ F, Fr F ∧ ∀ x ∈ T, x ∈ F ∨ neg x ∈ F := by
  have two : ∀ a ∈ RT, ∀ b ∈ RT, mulS a b = 0 → ∃ F, Fr F ∧ a ∈ F ∧ b ∈ F := by
    intro a ha b hb h
    obtain ⟨c, hc⟩ : ∃ c, c ∈ osq [a, b] := List.exists_mem_of_length_pos (by rw [o60 a ha b hb h]; decide)
    obtain ⟨h1, h2⟩ := osq_mem.mp hc
    obtain ⟨X, hX, _⟩ := frame_tri a ha b hb c h1 h (h2 a (by simp)) (h2 b (by simp)) [] (fun x hx => by cases hx) .nil
    exact ⟨_, hX, by simp, by simp⟩
  have one : ∀ a ∈ RT, ∃ F, Fr F ∧ a ∈ F := by
    intro a ha
    obtain ⟨b, hb⟩ : ∃ b, b ∈ osq [a] := List.exists_mem_of_length_pos (by rw [o126 a ha]; decide)
    obtain ⟨h1, h2⟩ := osq_mem.mp hb
    obtain ⟨F, hF, h3, _⟩ := two a ha b h1 (h2 a (by simp))
    exact ⟨F, hF, h3⟩
  intro T hT hp
  match T, hT, hp with
  | [], _, _ =>
    obtain ⟨F, hF, _⟩ := one r0 r0_in
    exact ⟨F, hF, fun x hx => by cases hx⟩
  | [a], hT, _ =>
    obtain ⟨F, hF, h⟩ := one a (hT a (by simp))
    exact ⟨F, hF, fun x hx => .inl (by rw [List.mem_singleton.mp hx]; exact h)⟩
  | [a, b], hT, hp =>
    obtain ⟨F, hF, h1, h2⟩ := two a (hT a (by simp)) b (hT b (by simp)) ((List.pairwise_cons.mp hp).1 b (by simp))
    refine ⟨F, hF, fun x hx => .inl ?_⟩
    rcases List.mem_cons.mp hx with rfl | hx
    · exact h1
    · rw [List.mem_singleton.mp hx]; exact h2
  | a :: b :: c :: T, hT, hp =>
    obtain ⟨p1, hp⟩ := List.pairwise_cons.mp hp
    obtain ⟨p2, hp⟩ := List.pairwise_cons.mp hp
    obtain ⟨p3, hp⟩ := List.pairwise_cons.mp hp
    obtain ⟨X, hX, h⟩ := frame_tri a (hT a (by simp)) b (hT b (by simp)) c (hT c (by simp)) (p1 b (by simp)) (p1 c (by simp)) (p2 c (by simp)) T (fun x hx => by
      refine osq_mem.mpr ⟨hT x (by simp [hx]), fun a ha => ?_⟩
      rcases List.mem_cons.mp ha with rfl | ha
      · exact p1 x (by simp [hx])
      · rcases List.mem_cons.mp ha with rfl | ha
        · exact p2 x (by simp [hx])
        · rw [List.mem_singleton.mp ha]; exact p3 x hx) hp
    refine ⟨_, hX, fun x hx => ?_⟩
    rcases List.mem_cons.mp hx with rfl | hx
    · exact .inl (by simp)
    · rcases List.mem_cons.mp hx with rfl | hx
      · exact .inl (by simp)
      · rcases List.mem_cons.mp hx with rfl | hx
        · exact .inl (by simp)
        · rcases h x hx with e | e
          · exact .inl (by simp [e])
          · exact .inr (by simp [e])
theorem sub_len {α : Type} [DecidableEq α] : ∀ {l m : List α}, l.Nodup → (∀ x ∈ l, x ∈ m) → l.length ≤ m.length
  | [], m, _, _ => Nat.zero_le _
  | x :: l, m, h, hs => by
    have hx := hs x List.mem_cons_self
    have := sub_len (l := l) (m := m.erase x) (List.nodup_cons.mp h).2 fun y hy => (List.mem_erase_of_ne (fun e => (List.nodup_cons.mp h).1 (by rw [← e]; exact hy))).mpr (hs y (List.mem_cons_of_mem _ hy))
    rw [List.length_erase_of_mem hx] at this
    have := List.length_pos_of_mem hx
    rw [List.length_cons]
    omega
section
variable {T : List (List Int)} (hT : ∀ x ∈ T, x ∈ RT) (hp : T.Pairwise fun x y => mulS x y = 0)
include hT hp in
/-- T put into a frame -/
theorem frame_map : ∃ F, Fr F ∧ ∃ σ : List Int → Bool, (∀ x ∈ T, (if σ x then x else neg x) ∈ F) ∧ (T.map fun x => if σ x then x else neg x).Nodup := by
  obtain ⟨F, hF, h⟩ := frame_of T hT hp
  refine ⟨F, hF, fun x => F.contains x, fun x hx => ?_, List.pairwise_map.mpr (hp.imp_of_mem fun {x y} hx hy q e => ?_)⟩
  · by_cases e : F.contains x = true
    · rw [if_pos e]; exact List.contains_iff_mem.mp e
    · rw [if_neg e]
      rcases h x hx with q | q
      · exact absurd (List.contains_iff_mem.mpr q) e
      · exact q
  · have s : ∀ (b c : Bool), mulS (if b then x else neg x) (if c then y else neg y) = 0 := by
      intro b c
      cases b <;> cases c <;> simp [mulS_neg, mulS_neg', q]
    have s1 := s (F.contains x) (F.contains y)
    rw [← e] at s1
    have s2 : mulS (if F.contains x then x else neg x) (if F.contains x then x else neg x) = 8 := by
      split
      · exact RT_sq (hT x hx)
      · exact RT_sq (neg_RT (hT x hx))
    rw [s2] at s1
    cases s1
theorem Fr.nodup {F : List (List Int)} (h : Fr F) : F.Nodup := h.pw.imp_of_mem fun {x y} hx hy q e => by
  subst e
  rw [RT_sq (h.rt x hx)] at q
  cases q
include hT hp in
theorem frame_le : T.length ≤ 8 := by
  obtain ⟨F, hF, σ, h1, h2⟩ := frame_map hT hp
  have := sub_len h2 (m := F) fun y hy => by
    obtain ⟨x, hx, rfl⟩ := List.mem_map.mp hy
    exact h1 x hx
  rwa [List.length_map, hF.len] at this
include hT hp in
/-- fewer than eight: another -/
theorem frame_more (h8 : T.length < 8) : ∃ z ∈ RT, ∀ x ∈ T, mulS x z = 0 := by
  obtain ⟨F, hF, σ, h1, h2⟩ := frame_map hT hp
  obtain ⟨z, hz, hn⟩ : ∃ z ∈ F, z ∉ T.map fun x => if σ x then x else neg x := by
    refine Classical.byContradiction fun hn => ?_
    have := sub_len hF.nodup (m := T.map fun x => if σ x then x else neg x) fun z hz => Classical.byContradiction fun q => hn ⟨z, hz, q⟩
    rw [List.length_map, hF.len] at this
    omega
  refine ⟨z, hF.rt z hz, fun x hx => ?_⟩
  have hx' := h1 x hx
  rcases pw_or hF.pw _ hx' z hz with e | e
  · exact absurd (List.mem_map.mpr ⟨x, hx, e⟩) hn
  · split at e
    · exact e
    · rw [mulS_neg] at e; omega
include hT hp in
theorem frame_cnt (h8 : T.length = 8) : cnt (fun _ => true) T z8 0 = 16 ∧ cnt (fun k => k == 4) T z8 0 = 14 := by
  obtain ⟨F, hF, σ, h1, h2⟩ := frame_map hT hp
  have sub : ∀ y ∈ T.map fun x => if σ x then x else neg x, y ∈ F := fun y hy => by
    obtain ⟨x, hx, rfl⟩ := List.mem_map.mp hy
    exact h1 x hx
  have pm : (T.map fun x => if σ x then x else neg x).Perm F := by
    refine (List.perm_ext_iff_of_nodup h2 hF.nodup).mpr fun z => ⟨sub z, fun hz => Classical.byContradiction fun hn => ?_⟩
    have := sub_len (l := z :: T.map fun x => if σ x then x else neg x) (List.nodup_cons.mpr ⟨hn, h2⟩) (m := F) fun y hy => by
      rcases List.mem_cons.mp hy with rfl | hy
      · exact hz
      · exact sub y hy
    rw [List.length_cons, List.length_map, hF.len] at this
    omega
  have hl : ∀ t ∈ T, Lat t := fun t ht => RT_lat (hT t ht)
  exact ⟨by rw [← cnt_sign σ T z8 0 hl z8_lat, cnt_perm pm, hF.all], by rw [← cnt_sign σ T z8 0 hl z8_lat, cnt_perm pm, hF.four]⟩
end
end Pf

set_option Elab.async false
set_option linter.all false
set_option maxRecDepth 100000
set_option maxHeartbeats 4000000
namespace Pf
open PySem PySem.Spec PyProof.Rows L2
theorem zipD_ints : ∀ (r s : List Int), zipD (r.map D.int) (s.map D.int) = (r.zip s).map fun p => D.tup [.int p.1, .int p.2]
  | [], _ => rfl
  | _ :: _, [] => rfl
  | a :: r, b :: s => by show D.tup [.int a, .int b] :: zipD (r.map D.int) (s.map D.int) = _; rw [zipD_ints r s]; rfl
theorem zip_rows {ρ : En} {φ φ1 : Fd} {S : SA} {r s : List Int} (h : S ρ φ = .ok [row r, row s] φ1) : iZp S ρ φ = .ok ((r.zip s).map fun p => D.tup [.int p.1, .int p.2]) φ1 := by
  unfold iZp
  rw [bind_ok' h]
  show O.ok (zipD (r.map D.int) (s.map D.int)) φ1 = _
  rw [zipD_ints]
theorem zip_map {α β γ : Type} (f : α → β → γ) : ∀ (r : List α) (s : List β), (r.zip s).map (fun p => f p.1 p.2) = List.zipWith f r s
  | [], _ => rfl
  | _ :: _, [] => rfl
  | a :: r, b :: s => by simp [zip_map f r s]
theorem zip_len {r s : List Int} (h : r.length ≤ 1000) : (r.zip s).length ≤ sizeLine := size_le (by rw [List.length_zip]; omega)
theorem gAdd_l {l k : List D} (h : l.length + k.length ≤ 1000000) : gAdd (.lst l) (.lst k) = some (.lst (l ++ k)) := by
  show (if _ then _ else _) = _
  rw [if_pos (size_le h)]
theorem eo_len : EV.length + OD.length = 240 := by decide +kernel
theorem range8 {r s : List Int} (hr : r.length = 8) (hs : s.length = 8) (f : Int → Int → Int) : (List.range 8).map (fun k => f (r.getD k 0) (s.getD k 0)) = List.zipWith f r s := by
  match r, hr, s, hs with
  | [a, b, c, d, e, g, h, i], _, [a', b', c', d', e', g', h', i'], _ => rfl
theorem getD_get {r : List Int} {k : Nat} (hr : r.length = 8) (hk : k ∈ List.range 8) : r[k]? = some (r.getD k 0) := by
  have hk' : k < r.length := by rw [hr]; exact List.mem_range.mp hk
  rw [List.getD_eq_getElem?_getD, List.getElem?_eq_getElem hk']; rfl
theorem getD_bd {r : List Int} {k : Nat} (h : Rw r) (hk : k ∈ List.range 8) : (r.getD k 0).natAbs ≤ 1000000 := h.2 _ (List.mem_of_getElem? (getD_get h.1 hk))
theorem rg8 {ρ : En} {φ : Fd} : iRg1 (aCons (eInt 8) aNil) ρ φ = .ok ((List.range 8).map fun (k : Nat) => D.int k) φ := rg1_ok (n := 8) rfl (by decide)
def R.env : R → En
  | .nx ρ _ => ρ
  | _ => []
theorem seq_env {P Q : SS} {ρ : En} {φ : Fd} {r : R} (h : P ρ φ = .nx (P ρ φ).env φ) (h2 : Q (P ρ φ).env φ = r) : sSeq P Q ρ φ = r := seq_nx h h2
theorem gIx_last (l : List D) (x : D) : gIx (.lst (l ++ [x])) (.int (-1)) = some x := atI_last l x
section
variable {α : Type} [DecidableEq α] {f : α → D} {lt : α → α → Bool} {n : Nat}
theorem ofold0_len (p : List α) (hp : p.length ≤ 100000) : (p.foldl ostep []).length ≤ 100000 := by
  have := ofold_len p []
  simp at this
  omega
theorem each_loop {T : SB} (l : List α) (φ : Fd) (hl : l.length ≤ 100000) (xs : List α) (hxs : xs.length ≤ 100000)
    (hT : ∀ (acc : List α) (x : α), acc.length ≤ 100000 → T [some (D.lst (l.map f)), some (D.lst (acc.map f)), some (f x)] φ = .ok (!decide (acc.getLast? = some x)) φ) :
    ∃ ρ', forGo (tgN 2) (sSeq (sIf T (sSeq (sMut 1 gApp (eVar 2)) sNil) sNil) sNil) (xs.map f) [some (D.lst (l.map f)), some (.lst []), none] φ = .nx ρ' φ ∧ ∃ y, ρ' = [some (D.lst (l.map f)), some (D.lst ((xs.foldl ostep []).map f)), y] := by
  obtain ⟨ρ', h1, h2⟩ := for_inv (T := tgN 2) (φ := φ) (e := f) (B := (sSeq (sIf T (sSeq (sMut 1 gApp (eVar 2)) sNil) sNil) sNil))
    (fun pre ρ => ∃ y, ρ = [some (D.lst (l.map f)), some (D.lst ((pre.foldl ostep []).map f)), y]) xs [] (ρ := [some (D.lst (l.map f)), some (.lst []), none]) ⟨none, rfl⟩ (by
    rintro pre x post ρ hp ⟨y, rfl⟩
    have hpl : pre.length ≤ 100000 := by
      have := congrArg List.length hp
      rw [List.nil_append, List.length_append] at this
      omega
    have hal := ofold0_len pre hpl
    refine ⟨_, rfl, ?_⟩
    have t := hT (pre.foldl ostep []) x hal
    rw [List.foldl_append]
    show ∃ ρ2, _ ∧ ∃ y, ρ2 = [_, some (D.lst ((ostep (pre.foldl ostep []) x).map f)), y]
    generalize pre.foldl ostep [] = acc at hal t
    by_cases e : acc.getLast? = some x
    · refine ⟨_, .inl (seq_nx (if_skip (t.trans (by simp [e]))) rfl), some (f x), ?_⟩
      unfold ostep
      rw [if_pos e]
      rfl
    · refine ⟨_, .inl (seq_nx (if_yes (t.trans (by simp [e])) (seq_nx (app_ok (l := acc.map f) rfl (v_ok rfl) (size_lt (by rw [List.length_map]; omega))) rfl)) rfl), some (f x), ?_⟩
      unfold ostep
      rw [if_neg e, List.map_append]
      rfl)
  exact ⟨ρ', h1, h2⟩
theorem last_ne (h : Emb f lt n) (hn : n < 64) (l acc : List α) (z x : α) (φ : Fd) : (bCmp gNe (eBin gIx (eVar 1) (eUn gNeg (eInt 1))) (eVar 2)) [some (D.lst (l.map f)), some (D.lst ((acc.concat z).map f)), some (f x)] φ = .ok (!decide (z = x)) φ := by
  refine cmp_ok (bin_ok (v_ok rfl) (un_ok rfl rfl) ?_) (v_ok rfl) (h.gNe (by omega) z x)
  have e0 : (acc.concat z).map f = acc.map f ++ [f z] := by simp
  rw [e0]
  exact gIx_last _ _
end
section
variable {α β : Type} {T T1 : Tg} {I1 : SA} {tst1 : SB} {elt : SX} {vs vs1 : List Nat} {ρ : En} {φ φ1 : Fd}
theorem lc2Go_map (e : α → D) (ys : α → List β) (e1 : β → D) (p : α → β → Bool) (g : α → β → D) : ∀ (xs : List α), (∀ x ∈ xs, ∃ ρ1, T (e x) ρ = some ρ1 ∧ I1 ρ1 φ = .ok ((ys x).map e1) φ ∧ ∀ y ∈ ys x, ∃ ρ2, T1 (e1 y) (wipeE ρ1 vs1) = some ρ2 ∧ tst1 ρ2 φ = .ok (p x y) φ ∧ (p x y = true → elt ρ2 φ = .ok (g x y) φ)) →
    lc2Go T bYes I1 T1 tst1 elt vs1 ρ (xs.map e) φ = .ok (xs.flatMap fun x => ((ys x).filter (p x)).map (g x)) φ
  | [], _ => rfl
  | x :: xs, h => by
    obtain ⟨ρ1, h1, h2, h3⟩ := h x List.mem_cons_self
    have ih := lc2Go_map e ys e1 p g xs fun y hy => h y (List.mem_cons_of_mem _ hy)
    have hin := lcGo_map (T := T1) (tst := tst1) (elt := elt) (ρ := wipeE ρ1 vs1) (φ := φ) e1 (p x) (g x) (ys x) h3
    rw [List.map_cons]
    unfold lc2Go
    rw [h1]
    simp only [bYes, h2, hin, ih, List.flatMap_cons]
theorem lc2_ok {I : SA} (xs : List α) (e : α → D) (ys : α → List β) (e1 : β → D) (p : α → β → Bool) (g : α → β → D) (hI : I ρ φ1 = .ok (xs.map e) φ)
    (hl : (xs.flatMap fun x => ((ys x).filter (p x)).map (g x)).length ≤ sizeLine)
    (h : ∀ x ∈ xs, ∃ ρ1, T (e x) (wipeE ρ vs) = some ρ1 ∧ I1 ρ1 φ = .ok ((ys x).map e1) φ ∧ ∀ y ∈ ys x, ∃ ρ2, T1 (e1 y) (wipeE ρ1 vs1) = some ρ2 ∧ tst1 ρ2 φ = .ok (p x y) φ ∧ (p x y = true → elt ρ2 φ = .ok (g x y) φ)) :
    eLc2 I T bYes I1 T1 tst1 elt vs vs1 ρ φ1 = .ok (.lst (xs.flatMap fun x => ((ys x).filter (p x)).map (g x))) φ := by
  unfold eLc2
  rw [hI]
  show (match lc2Go T bYes I1 T1 tst1 elt vs1 (wipeE ρ vs) (xs.map e) φ with | .ok ys φ2 => if ys.length ≤ sizeLine then O.ok (D.lst ys) φ2 else .bad | _ => .bad) = _
  rw [lc2Go_map e ys e1 p g xs h]
  show (if _ then _ else _) = _
  rw [if_pos hl]
end
theorem in_rows (x : List Int) (l : List (List Int)) : gIn false (row x) (rws l) = some (.bl (decide (x ∈ l))) := by
  have := emb_row.gIn (by decide) false x l
  rw [if_neg (by decide)] at this
  exact this.trans (congrArg (fun b => some (D.bl b)) (decide_eq_decide.mpr Iff.rfl))
theorem notin_rows (x : List Int) (l : List (List Int)) : gIn true (row x) (rws l) = some (.bl (!decide (x ∈ l))) := by
  have := emb_row.gIn (by decide) true x l
  rw [if_pos rfl] at this
  exact this.trans (congrArg (fun b => some (D.bl (!b))) (decide_eq_decide.mpr Iff.rfl))
theorem mulS_nn : ∀ x : List Int, 0 ≤ mulS x x
  | [] => by decide
  | a :: x => by
    rw [mulS_cons]
    have := mulS_nn x
    have := sq_nn a
    omega
theorem dot_bd {g x : List Int} (hg : g ∈ RT) (hx : x ∈ RT) : (dot g x).natAbs ≤ 2 := by
  have hl : g.length = x.length := by rw [RT_l8 hg, RT_l8 hx]
  have h1 := mulS_nn (add g x)
  have h2 := mulS_nn (less g x 1)
  rw [mulS_add hl, mulS_comm g, mulS_comm x (add g x), mulS_add hl, mulS_add hl, RT_sq hg, RT_sq hx, mulS_comm x g] at h1
  rw [mulS_less 1 hl, mulS_less' 1 hl, mulS_less' 1 hl, RT_sq hg, RT_sq hx, mulS_comm x g] at h2
  have := (RT_lat hg).dot (RT_lat hx)
  omega
def pfl (d : D) : Bool := d.flatB && d.shp
def pln : Nat → D → Bool
  | 0, d => pfl d
  | n + 1, d => match d with
    | .lst l => decide (l.length ≤ 1000000) && l.all (pln n)
    | .tup l => decide (l.length ≤ 1000000) && l.all (pln n)
    | d => pfl d
theorem len_ok {ρ : En} {φ : Fd} {A : SX} {l : List D} (h : A ρ φ = .ok (.lst l) φ) : eCB gLen (aCons A aNil) ρ φ = .ok (.int (l.length : Int)) φ := cb1_ok h rfl
theorem all_true {n : Nat} {ρ : En} {φ : Fd} {A : SX} (h : A ρ φ = .ok (.lst ((List.range n).map fun _ => D.bl true)) φ) : eCB gAll (aCons A aNil) ρ φ = .ok (.bl true) φ := by
  refine cb1_ok h ?_
  have e : (List.range n).map (fun _ => D.bl true) = ((List.range n).map fun _ => true).map D.bl := by rw [List.map_map]; rfl
  show (blsOf _).map (fun ns : List Bool => D.bl (ns.all id)) = _
  rw [e, blsOf_map]
  simp
theorem pln_row {r : List Int} (h : r.length ≤ 1000000) : pln 1 (row r) = true := by
  show (decide ((r.map D.int).length ≤ 1000000) && (r.map D.int).all (pln 0)) = true
  rw [List.length_map, decide_eq_true h, Bool.true_and, List.all_map, List.all_eq_true]
  intro x _
  rfl
theorem pln_map {α : Type} {f : α → D} {n : Nat} {l : List α} (hl : l.length ≤ 1000000) (h : ∀ x ∈ l, pln n (f x) = true) : pln (n + 1) (.lst (l.map f)) = true := by
  show (decide ((l.map f).length ≤ 1000000) && (l.map f).all (pln n)) = true
  rw [List.length_map, decide_eq_true hl, Bool.true_and, List.all_map, List.all_eq_true]
  intro x hx
  exact h x hx
theorem pln_up : ∀ (n : Nat) (d : D), pln n d = true → pln (n + 1) d = true
  | 0, d, h => by cases d <;> first | exact h | exact absurd h (by simp [pln, pfl, D.flatB])
  | n + 1, d, h => by
    cases d with
    | lst l =>
      have h' : (decide (l.length ≤ 1000000) && l.all (pln n)) = true := h
      rw [Bool.and_eq_true, List.all_eq_true] at h'
      show (decide (l.length ≤ 1000000) && l.all (pln (n + 1))) = true
      rw [Bool.and_eq_true, List.all_eq_true]
      exact ⟨h'.1, fun x hx => pln_up n x (h'.2 x hx)⟩
    | tup l =>
      have h' : (decide (l.length ≤ 1000000) && l.all (pln n)) = true := h
      rw [Bool.and_eq_true, List.all_eq_true] at h'
      show (decide (l.length ≤ 1000000) && l.all (pln (n + 1))) = true
      rw [Bool.and_eq_true, List.all_eq_true]
      exact ⟨h'.1, fun x hx => pln_up n x (h'.2 x hx)⟩
    | _ => exact h
theorem pln_le {n m : Nat} {d : D} (h : pln n d = true) (hm : n ≤ m) : pln m d = true := by
  induction hm with
  | refl => exact h
  | step _ ih => exact pln_up _ _ ih
theorem draw_ix {α : Type} (f : α → D) (l : List α) (φ : Fd) {n : Nat} (m : Int) (hm : m = (n : Int)) (hl : l.length = n) (hn : 0 < n) : ∃ x ∈ l, gIx (.lst (l.map f)) (.int (φ.draw m).1) = some (f x) := by
  subst hm
  obtain ⟨h0, h1⟩ := φ.draw_range (m := (n : Int)) (by omega)
  obtain ⟨k, hk⟩ : ∃ k : Nat, (φ.draw (n : Int)).1 = (k : Int) := ⟨_, (Int.toNat_of_nonneg h0).symm⟩
  rw [hk] at h1 ⊢
  have hkl : k < l.length := by omega
  refine ⟨l[k], List.getElem_mem hkl, gIx_lst ?_⟩
  rw [List.getElem?_map, List.getElem?_eq_getElem hkl]
  rfl
theorem ne_false {α : Type} [DecidableEq α] {f : α → D} {lt : α → α → Bool} {n : Nat} (h : Emb f lt n) (hn : n ≤ 64) (x : α) : gNe (f x) (f x) = some (.bl false) := (h.gNe hn x x).trans (by simp)
theorem ne_len {a b : Nat} (h : a = b) : gNe (.int (a : Int)) (.int (b : Int)) = some (.bl false) := by rw [h]; exact ne_false emb_int (by decide) _
theorem sum_lens (k : Nat) (l : List D) (h : l.length = k) : gLen [.lst l] = some (.int (k : Int)) := by rw [← h]; rfl
end Pf

set_option Elab.async false
set_option linter.all false
set_option maxRecDepth 100000
set_option maxHeartbeats 4000000
namespace Pf
open PySem PySem.Spec PyProof.Rows L2

/-! ## loops and lists that draw -/
theorem draw_at {ρ : En} {φ : Fd} {A : SX} {n : Int} (i : Nat) (h : ρ[i]? = some (some .feed)) (hn : A ρ φ = .ok (.int n) φ) (h0 : 0 < n) (h1 : n < 1073741824) (ht : 0 ≤ φ.told) : eCall drawF (aCons (eVar i) (aCons A aNil)) ρ φ = .ok (.int (φ.draw n).1) (φ.draw n).2 := by
  refine call_ok (two_ok (v_ok h) hn) ?_
  show (if (0 < n ∧ n < 1073741824) ∧ 0 ≤ φ.told then O.ok (D.int (φ.draw n).1) (φ.draw n).2 else .bad) = _
  rw [if_pos ⟨⟨h0, h1⟩, ht⟩]
theorem Fd.step_told {φ : Fd} (h : 0 ≤ φ.told) : 0 ≤ φ.step.told := by
  unfold Fd.step
  split
  · dsimp only
    split
    · show (0 : Int) ≤ ((φ.cells.getD φ.pos.toNat 0).natAbs : Nat); omega
    · exact h
  · exact h
theorem Fd.draw_told {φ : Fd} (h : 0 ≤ φ.told) (n : Int) (hn : 0 ≤ n := by decide) : 0 ≤ (φ.draw n).2.told := by
  have h2 := Fd.step_told h
  unfold Fd.draw
  dsimp only
  split
  · rename_i hh
    exact Int.ediv_nonneg h2 hn
  · exact h2
section
variable {α β : Type} {T : Tg} {tst : SB} {elt : SX}
theorem for_st {B : SS} {e : α → D} (P : List α → En → Fd → Prop) : ∀ (xs pre : List α) {ρ : En} {φ : Fd}, P pre ρ φ → (∀ (pre' : List α) (x : α) (post : List α) (ρ : En) (φ : Fd), pre ++ xs = pre' ++ x :: post → P pre' ρ φ → ∃ ρ1, T (e x) ρ = some ρ1 ∧ ∃ ρ2 φ2, (B ρ1 φ = .nx ρ2 φ2 ∨ B ρ1 φ = .ct ρ2 φ2) ∧ P (pre' ++ [x]) ρ2 φ2) →
    ∃ ρ' φ', forGo T B (xs.map e) ρ φ = .nx ρ' φ' ∧ P (pre ++ xs) ρ' φ'
  | [], pre, ρ, φ, h0, _ => ⟨ρ, φ, rfl, by simpa using h0⟩
  | x :: xs, pre, ρ, φ, h0, hs => by
    obtain ⟨ρ1, h1, ρ2, φ2, h2, h3⟩ := hs pre x xs ρ φ rfl h0
    obtain ⟨ρ', φ', h4, h5⟩ := for_st (B := B) (e := e) P xs (pre ++ [x]) h3 fun pre' y post ρ φ e' hp => hs pre' y post ρ φ (by rw [← e']; simp) hp
    refine ⟨ρ', φ', ?_, by simpa using h5⟩
    rw [List.map_cons]
    unfold forGo
    rw [h1]
    rcases h2 with h2 | h2 <;> simp only [h2] <;> exact h4
theorem lcGo_st (e : α → D) (g : β → D) (R : α → β → Prop) {ρ : En} : ∀ (xs : List α) (φ : Fd), (∀ x ∈ xs, ∀ φ, ∃ ρ1 b φ1, T (e x) ρ = some ρ1 ∧ tst ρ1 φ = .ok b φ1 ∧ (b = true → ∃ z φ2, R x z ∧ elt ρ1 φ1 = .ok (g z) φ2)) →
    ∃ (zs : List β) (φ' : Fd), lcGo T tst elt ρ (xs.map e) φ = .ok (zs.map g) φ' ∧ (∀ z ∈ zs, ∃ x ∈ xs, R x z) ∧ zs.length ≤ xs.length
  | [], φ, _ => ⟨[], φ, rfl, fun z hz => (by cases hz), Nat.le_refl _⟩
  | x :: xs, φ, h => by
    obtain ⟨ρ1, b, φ1, h1, h2, h3⟩ := h x List.mem_cons_self φ
    have hxs : ∀ y ∈ xs, ∀ φ, ∃ ρ1 b φ1, T (e y) ρ = some ρ1 ∧ tst ρ1 φ = .ok b φ1 ∧ (b = true → ∃ z φ2, R y z ∧ elt ρ1 φ1 = .ok (g z) φ2) := fun y hy => h y (List.mem_cons_of_mem _ hy)
    cases b with
    | false =>
      obtain ⟨zs, φ', e1, e2, e3⟩ := lcGo_st e g R xs φ1 hxs
      refine ⟨zs, φ', ?_, fun z hz => ?_, by rw [List.length_cons]; omega⟩
      · rw [List.map_cons]; unfold lcGo; rw [h1]; simp only [h2]; exact e1
      · obtain ⟨y, hy, hr⟩ := e2 z hz
        exact ⟨y, List.mem_cons_of_mem _ hy, hr⟩
    | true =>
      obtain ⟨z, φ2, hr, h4⟩ := h3 rfl
      obtain ⟨zs, φ', e1, e2, e3⟩ := lcGo_st e g R xs φ2 hxs
      refine ⟨z :: zs, φ', ?_, fun u hu => ?_, by rw [List.length_cons, List.length_cons]; omega⟩
      · rw [List.map_cons]; unfold lcGo; rw [h1]; simp only [h2, h4, e1]; rfl
      · rcases List.mem_cons.mp hu with rfl | hu
        · exact ⟨x, List.mem_cons_self, hr⟩
        · obtain ⟨y, hy, hr⟩ := e2 u hu
          exact ⟨y, List.mem_cons_of_mem _ hy, hr⟩
theorem lc_st {I : SA} {vs : List Nat} {ρ : En} {φ φ1 : Fd} (xs : List α) (e : α → D) (g : β → D) (R : α → β → Prop) (hI : I ρ φ1 = .ok (xs.map e) φ) (hl : xs.length ≤ sizeLine)
    (h : ∀ x ∈ xs, ∀ φ, ∃ ρ1 b φ1, T (e x) (wipeE ρ vs) = some ρ1 ∧ tst ρ1 φ = .ok b φ1 ∧ (b = true → ∃ z φ2, R x z ∧ elt ρ1 φ1 = .ok (g z) φ2)) :
    ∃ (zs : List β) (φ' : Fd), eLc I T tst elt vs ρ φ1 = .ok (.lst (zs.map g)) φ' ∧ (∀ z ∈ zs, ∃ x ∈ xs, R x z) ∧ zs.length ≤ xs.length := by
  obtain ⟨zs, φ', e1, e2, e3⟩ := lcGo_st e g R (ρ := wipeE ρ vs) xs φ h
  refine ⟨zs, φ', ?_, e2, e3⟩
  unfold eLc
  rw [hI]
  show (match lcGo T tst elt (wipeE ρ vs) (xs.map e) φ with | .ok ys φ2 => if ys.length ≤ sizeLine then O.ok (D.lst ys) φ2 else .bad | _ => .bad) = _
  rw [e1]
  show (if _ then _ else _) = _
  rw [if_pos (by rw [List.length_map]; omega)]
end
/-! ## the greater of two -/
section
variable {α : Type} [DecidableEq α] {f : α → D} {lt : α → α → Bool} {n : Nat}
theorem Emb.okLt (h : Emb f lt n) (hn : n ≤ 64) (x y : α) : okLt (f x) (f y) = true := by
  unfold Pf.okLt
  rw [h.al, h.shp hn, h.shp hn]
  have : (f x).isNon = false := by
    have := h.nn x
    cases e : f x with
    | non => exact absurd e this
    | _ => rfl
  rw [this]
  rfl
theorem Emb.gMax2D (h : Emb f lt n) (hn : n ≤ 64) (x y : α) : gMax2D [f x, f y] = some (f (if lt x y then y else x)) := by
  show (if _ then _ else _) = _
  rw [h.okLt hn, h.okLt hn, h.shp hn, h.shp hn, h.lt]
  unfold alk2
  rw [h.al, h.al, h.al, h.al]
  cases lt x y <;> rfl
end
/-- the greater of a root and its contrary -/
def gr (x : List Int) : List Int := if ltR x (neg x) then neg x else x
theorem gr_or (x : List Int) : gr x = x ∨ gr x = neg x := by
  unfold gr
  split
  · exact .inr rfl
  · exact .inl rfl
theorem gr_RT {x : List Int} (h : x ∈ RT) : gr x ∈ RT := by
  rcases gr_or x with e | e <;> rw [e]
  · exact h
  · exact neg_RT h
theorem gr_mul {x y : List Int} : mulS (gr x) y = 0 ↔ mulS x y = 0 := by
  rcases gr_or x with e | e <;> rw [e]
  rw [mulS_neg]
  omega
theorem neg_ne {x : List Int} (h : x ∈ RT) : neg x ≠ x := fun e => by
  have := mulS_neg x x
  rw [e, RT_sq h] at this
  cases this
theorem gr_gr {x : List Int} (h : x ∈ RT) : gr (gr x) = gr x := by
  unfold gr
  by_cases e : ltR x (neg x) = true
  · rw [if_pos e, neg_neg, if_neg (by rw [tot_row.asym e]; decide)]
  · rw [if_neg e, if_neg e]
theorem gr_neg {x : List Int} (h : x ∈ RT) : gr (neg x) = gr x := by
  unfold gr
  rw [neg_neg]
  by_cases e : ltR x (neg x) = true
  · rw [if_pos e, if_neg (by rw [tot_row.asym e]; decide)]
  · rw [if_neg e]
    by_cases e2 : ltR (neg x) x = true
    · rw [if_pos e2]
    · exact absurd (tot_row.tri _ _ (by simpa using e) (by simpa using e2)).symm (neg_ne h)
theorem gr_one {x : List Int} (h : x ∈ RT) : (gr x = x ∧ gr (neg x) ≠ neg x) ∨ (gr x ≠ x ∧ gr (neg x) = neg x) := by
  rw [gr_neg h]
  rcases gr_or x with e | e
  · exact .inl ⟨e, by rw [e]; exact (neg_ne h).symm⟩
  · exact .inr ⟨by rw [e]; exact neg_ne h, e⟩
theorem neg_perm : (RT.map neg).Perm RT := by
  refine (List.perm_ext_iff_of_nodup (map_nodup RT_nodup fun a ha b hb e => ?_) RT_nodup).mpr fun x => ⟨fun h => ?_, fun h => ?_⟩
  · rw [← neg_neg a, e, neg_neg]
  · obtain ⟨y, hy, rfl⟩ := List.mem_map.mp h
    exact neg_RT hy
  · exact List.mem_map.mpr ⟨neg x, neg_RT h, neg_neg x⟩
/-- half of what contraries share are greater -/
theorem count_gr {P : List Int → Bool} (h : ∀ x ∈ RT, P (neg x) = P x) : 2 * RT.countP (fun x => decide (gr x = x) && P x) = RT.countP P := by
  have e1 : RT.countP (fun x => decide (gr x = x) && P x) = RT.countP fun x => !decide (gr x = x) && P x := by
    rw [← neg_perm.countP_eq, List.countP_map]
    refine List.countP_congr fun x hx => ?_
    show (decide (gr (neg x) = neg x) && P (neg x)) = true ↔ _
    rw [h x hx]
    rcases gr_one hx with ⟨q1, q2⟩ | ⟨q1, q2⟩ <;> simp [q1, q2]
  have e2 : ∀ l : List (List Int), l.countP P = l.countP (fun x => decide (gr x = x) && P x) + l.countP fun x => !decide (gr x = x) && P x := by
    intro l
    induction l with
    | nil => rfl
    | cons x l ih =>
      rw [List.countP_cons, List.countP_cons, List.countP_cons, ih]
      by_cases q : gr x = x <;> cases P x <;> simp [q] <;> omega
  rw [e2 RT]
  omega
end Pf

set_option Elab.async false
set_option linter.all false
set_option maxRecDepth 100000
set_option maxHeartbeats 4000000
namespace Pf
open PySem PySem.Spec PyProof.Rows L2
/-! evaluation, shared -/
def nrow (P : List Nat) : D := row (P.map fun (k : Nat) => (k : Int))
def rg (a n : Nat) : List Nat := (List.range (n - a)).map fun t => a + t
theorem rg_mem {a n k : Nat} : k ∈ rg a n ↔ a ≤ k ∧ k < n := by
  unfold rg
  rw [List.mem_map]
  constructor
  · rintro ⟨t, ht, rfl⟩
    rw [List.mem_range] at ht
    omega
  · intro h
    exact ⟨k - a, List.mem_range.mpr (by omega), by omega⟩
theorem rg_ok {ρ : En} {φ φ1 : Fd} {S : SA} {a n : Nat} (h : S ρ φ = .ok [.int (a : Int), .int (n : Int)] φ1) (ha : a ≤ 1000000) (hn : n ≤ 1000000) : iRg2 S ρ φ = .ok ((rg a n).map fun (k : Nat) => D.int k) φ1 := by
  rw [rg2_ok h (small62_of ⟨by omega, by omega⟩) (small62_of ⟨by omega, by omega⟩)]
  unfold rg
  rw [List.map_map, show ((n : Int) - (a : Int)).toNat = n - a by omega]
  rfl
theorem rg_len {a n : Nat} : (rg a n).length = n - a := by unfold rg; rw [List.length_map, List.length_range]
def gw (rows : List (List Int)) (k : Nat) : List Int := rows.getD k []
theorem gw_get {rows : List (List Int)} {k : Nat} (h : k < rows.length) : rows[k]? = some (gw rows k) := by
  unfold gw
  rw [List.getD_eq_getElem?_getD, List.getElem?_eq_getElem h]; rfl
theorem gw_mem {rows : List (List Int)} {k : Nat} (h : k < rows.length) : gw rows k ∈ rows := List.mem_of_getElem? (gw_get h)
theorem gIx_rows {rows : List (List Int)} {k : Nat} (h : k < rows.length) : gIx (rws rows) (.int (k : Int)) = some (row (gw rows k)) :=
  gIx_lst (by rw [List.getElem?_map, gw_get h]; rfl)
theorem rows_range (rows : List (List Int)) : (List.range rows.length).map (gw rows) = rows := by
  refine List.ext_getElem? fun i => ?_
  by_cases h : i < rows.length
  · rw [List.getElem?_map, List.getElem?_range h, gw_get h]; rfl
  · rw [List.getElem?_eq_none (by simp; omega), List.getElem?_eq_none (by omega)]
theorem ne_int (a b : Int) : gNe (.int a) (.int b) = some (.bl (!decide (a = b))) := emb_int.gNe (by decide) a b
theorem eq_int (a b : Int) : gEq (.int a) (.int b) = some (.bl (decide (a = b))) := emb_int.gEq (by decide) a b
theorem in_nrow (k : Nat) (P : List Nat) : gIn false (.int (k : Int)) (nrow P) = some (.bl (decide (k ∈ P))) := by
  refine (emb_int.gIn (by decide) false (k : Int) (P.map fun (k : Nat) => (k : Int))).trans ?_
  rw [if_neg (by decide)]
  congr 2
  refine decide_eq_decide.mpr ?_
  rw [List.mem_map]
  constructor
  · rintro ⟨j, hj, e⟩
    have : j = k := by omega
    rw [← this]; exact hj
  · intro h
    exact ⟨k, h, rfl⟩
theorem enum_go : ∀ (rows : List (List Int)) (i : Nat), enumD i (rows.map row) = (List.range rows.length).map fun k => D.tup [.int ((i + k : Nat) : Int), row (gw rows k)]
  | [], _ => rfl
  | r :: rows, i => by
    show D.tup [.int (i : Nat), row r] :: enumD (i + 1) (rows.map row) = _
    rw [enum_go rows (i + 1), List.length_cons, List.range_succ_eq_map, List.map_cons, List.map_map]
    congr 1
    refine List.map_congr_left fun k _ => ?_
    show D.tup [.int ((i + 1 + k : Nat) : Int), row (gw rows k)] = D.tup [.int ((i + (k + 1) : Nat) : Int), row (gw (r :: rows) (k + 1))]
    rw [show i + 1 + k = i + (k + 1) by omega]
    rfl
theorem enum_rows (rows : List (List Int)) : enumD 0 (rows.map row) = (List.range rows.length).map fun (k : Nat) => D.tup [.int (k : Int), row (gw rows k)] := by
  rw [enum_go]
  refine List.map_congr_left fun k _ => ?_
  rw [Nat.zero_add]
section
variable {rows : List (List Int)}
theorem gLen_rows : gLen [rws rows] = some (.int (rows.length : Int)) := sum_lens _ _ (by rw [List.length_map])
end
theorem notin_ints (x : Int) (l : List Int) : gIn true (.int x) (row l) = some (.bl (!decide (x ∈ l))) := (emb_int.gIn (by decide) true x l).trans (by rw [if_pos rfl])
theorem flat_len {α β : Type} {f : α → List β} {k : Nat} : ∀ {l : List α}, (∀ x ∈ l, (f x).length ≤ k) → (l.flatMap f).length ≤ l.length * k
  | [], _ => by simp
  | x :: l, h => by
    rw [List.flatMap_cons, List.length_append, List.length_cons, Nat.succ_mul]
    have h1 := h x List.mem_cons_self
    have h2 := flat_len fun y hy => h y (List.mem_cons_of_mem _ hy)
    omega
theorem flat_sub {α β : Type} {f g : α → List β} : ∀ {l : List α}, (∀ x ∈ l, (f x).Sublist (g x)) → (l.flatMap f).Sublist (l.flatMap g)
  | [], _ => List.Sublist.refl _
  | x :: l, h => by
    rw [List.flatMap_cons, List.flatMap_cons]
    exact (h x List.mem_cons_self).append (flat_sub fun y hy => h y (List.mem_cons_of_mem _ hy))
theorem for_app {α β : Type} {T : Tg} {B : SS} {e : α → D} {φ : Fd} (f : α → List β) (St : List β → En → Prop) : ∀ (xs : List α) (acc : List β) {ρ : En}, St acc ρ → acc.length + (xs.flatMap f).length ≤ 100000 →
    (∀ x ∈ xs, ∀ (acc : List β) (ρ : En), acc.length + (f x).length ≤ 100000 → St acc ρ → ∃ ρ1, T (e x) ρ = some ρ1 ∧ ∃ ρ2, (B ρ1 φ = .nx ρ2 φ ∨ B ρ1 φ = .ct ρ2 φ) ∧ St (acc ++ f x) ρ2) →
    ∃ ρ', forGo T B (xs.map e) ρ φ = .nx ρ' φ ∧ St (acc ++ xs.flatMap f) ρ'
  | [], acc, ρ, h0, _, _ => ⟨ρ, rfl, by simpa using h0⟩
  | x :: xs, acc, ρ, h0, hl, hs => by
    rw [List.flatMap_cons, List.length_append] at hl
    obtain ⟨ρ1, h1, ρ2, h2, h3⟩ := hs x List.mem_cons_self acc ρ (by omega) h0
    obtain ⟨ρ', h4, h5⟩ := for_app (B := B) (e := e) (φ := φ) f St xs (acc ++ f x) h3 (by rw [List.length_append]; omega) fun y hy => hs y (List.mem_cons_of_mem _ hy)
    refine ⟨ρ', ?_, by rw [List.flatMap_cons, ← List.append_assoc]; exact h5⟩
    rw [List.map_cons]
    unfold forGo
    rw [h1]
    rcases h2 with h2 | h2 <;> simp only [h2] <;> exact h4
theorem for_first {α : Type} {T : Tg} {B : SS} {e : α → D} {φ : Fd} (good : α → Bool) (out : α → D) (Inv : En → Prop) : ∀ (xs : List α) {ρ : En}, Inv ρ → (∀ x ∈ xs, ∀ ρ, Inv ρ → ∃ ρ1, T (e x) ρ = some ρ1 ∧ (good x = true → B ρ1 φ = .rt (out x) φ) ∧ (good x = false → ∃ ρ2, (B ρ1 φ = .nx ρ2 φ ∨ B ρ1 φ = .ct ρ2 φ) ∧ Inv ρ2)) →
    (xs.find? good = none → ∃ ρ', forGo T B (xs.map e) ρ φ = .nx ρ' φ ∧ Inv ρ') ∧ (∀ x, xs.find? good = some x → forGo T B (xs.map e) ρ φ = .rt (out x) φ)
  | [], ρ, h0, _ => ⟨fun _ => ⟨ρ, rfl, h0⟩, fun x h => by cases h⟩
  | x :: xs, ρ, h0, hs => by
    obtain ⟨ρ1, h1, h2, h3⟩ := hs x List.mem_cons_self ρ h0
    cases hg : good x with
    | true =>
      rw [List.find?_cons_of_pos hg]
      refine ⟨fun h => (by cases h), fun y hy => ?_⟩
      cases hy
      rw [List.map_cons]; unfold forGo; rw [h1]; simp only [h2 hg]
    | false =>
      rw [List.find?_cons_of_neg (by rw [hg]; decide)]
      obtain ⟨ρ2, h4, h5⟩ := h3 hg
      have ih := for_first (B := B) (e := e) (φ := φ) good out Inv xs h5 fun y hy => hs y (List.mem_cons_of_mem _ hy)
      have step : forGo T B ((x :: xs).map e) ρ φ = forGo T B (xs.map e) ρ2 φ := by
        rw [List.map_cons]
        conv => lhs; unfold forGo
        rw [h1]
        rcases h4 with h4 | h4 <;> simp only [h4]
      rw [step]
      exact ih
theorem ne_bl (a b : Bool) : gNe (.bl a) (.bl b) = some (.bl (!decide (a = b))) := by cases a <;> cases b <;> rfl
theorem eq_bl (a b : Bool) : gEq (.bl a) (.bl b) = some (.bl (decide (a = b))) := by cases a <;> cases b <;> rfl
theorem ne_self {d : D} (h : d.shp = true) : gNe d d = some (.bl false) := by
  unfold gNe
  rw [h]
  have hc : d.py.canLay0 = true := by
    unfold D.shp SeqAt.shaped at h
    rw [Bool.and_eq_true] at h
    exact h.1
  show some (D.bl (!PyData.eqv d.py d.py)) = _
  rw [PySem.SeqAt.eqv_refl d.py hc]
  rfl
theorem all_bls {α : Type} (l : List α) (p : α → Bool) : gAll [.lst (l.map fun a => D.bl (p a))] = some (.bl (l.all p)) := by
  have e : (l.map fun a => D.bl (p a)) = (l.map p).map D.bl := by rw [List.map_map]; rfl
  show (blsOf _).map (fun ns : List Bool => D.bl (ns.all id)) = _
  rw [e, blsOf_map]
  show some (D.bl ((l.map p).all id)) = _
  rw [List.all_map]
  rfl
theorem seq_bk {P Q : SS} {ρ ρ1 : En} {φ φ1 : Fd} (h1 : P ρ φ = .bk ρ1 φ1) : sSeq P Q ρ φ = .bk ρ1 φ1 := by unfold sSeq; rw [h1]; rfl
theorem for_brk {α : Type} {T : Tg} {B : SS} {e : α → D} {φ : Fd} (good : α → Bool) (Inv Out : En → Prop) : ∀ (xs : List α) {ρ : En}, Inv ρ → (∀ x ∈ xs, ∀ ρ, Inv ρ → ∃ ρ1, T (e x) ρ = some ρ1 ∧ (good x = true → ∃ ρ2, B ρ1 φ = .nx ρ2 φ ∧ Inv ρ2) ∧ (good x = false → ∃ ρ2, B ρ1 φ = .bk ρ2 φ ∧ Out ρ2)) →
    ∃ ρ', forGo T B (xs.map e) ρ φ = .nx ρ' φ ∧ (xs.all good = true → Inv ρ') ∧ (xs.all good = false → Out ρ')
  | [], ρ, h0, _ => ⟨ρ, rfl, fun _ => h0, fun h => (by cases h)⟩
  | x :: xs, ρ, h0, hs => by
    obtain ⟨ρ1, h1, h2, h3⟩ := hs x List.mem_cons_self ρ h0
    rw [List.all_cons]
    cases hg : good x with
    | true =>
      obtain ⟨ρ2, h4, h5⟩ := h2 hg
      obtain ⟨ρ', e1, e2⟩ := for_brk (B := B) (e := e) (φ := φ) good Inv Out xs h5 fun y hy => hs y (List.mem_cons_of_mem _ hy)
      refine ⟨ρ', ?_, by simpa using e2⟩
      rw [List.map_cons]
      unfold forGo
      rw [h1]
      simp only [h4]
      exact e1
    | false =>
      obtain ⟨ρ2, h4, h5⟩ := h3 hg
      refine ⟨ρ2, ?_, fun h => (by simp at h), fun _ => h5⟩
      rw [List.map_cons]
      unfold forGo
      rw [h1]
      simp only [h4]
theorem eand_val {A B : SX} {ρ : En} {φ : Fd} {a b : Bool} (ha : A ρ φ = .ok (.bl a) φ) (hb : B ρ φ = .ok (.bl b) φ) : eAnd A B ρ φ = .ok (.bl (a && b)) φ := by
  cases a with
  | true => exact eand_yes ha hb
  | false => exact eand_no ha
end Pf

set_option Elab.async false
set_option linter.all false
set_option maxRecDepth 100000
set_option maxHeartbeats 1000000
namespace Pf
open PySem PySem.Spec PyProof.Rows L2
theorem dot_mirR {g x y : List Int} (hg : g ∈ RT) (hx : x ∈ RT) (hy : y ∈ RT) : dot (mir g x) (mir g y) = dot x y := dot_mir hg (RT_lat hx) (RT_lat hy)
def N1 (r : List Int) : List (List Int) := RT.filter fun x => decide (dot r x = 1)
theorem N1_mem {r x : List Int} : x ∈ N1 r ↔ x ∈ RT ∧ dot r x = 1 := by unfold N1; rw [List.mem_filter, decide_eq_true_eq]
theorem N1_nodup (r : List Int) : (N1 r).Nodup := RT_nodup.filter _
theorem N1_len : ∀ r ∈ RT, (N1 r).length = 56 := by
  have h : ∀ r ∈ RT, RT.countP (fun x => decide (dot r x = 1)) = 56 := root_ind (by decide +kernel) fun g hg r hr q => by
    rw [← q]
    exact (count_mir hg _ _ fun x hx => by rw [dot_mirR hg hr hx]).symm
  intro r hr
  rw [← h r hr, List.countP_eq_length_filter]
  rfl
theorem dot_root {x : List Int} (h : x ∈ RT) : dot x x = 2 := dot_of (RT_lat h) (RT_lat h) (by rw [RT_sq h]; rfl)
theorem less_back : ∀ {r x : List Int}, r.length = x.length → less r (less r x 1) 1 = x
  | [], [], _ => rfl
  | a :: r, b :: x, h => by
    show (a - 1 * (a - 1 * b)) :: less r (less r x 1) 1 = _
    rw [less_back (Nat.succ.inj h)]
    congr 1
    omega
theorem N1_less {r x : List Int} (hr : r ∈ RT) (hx : x ∈ N1 r) : less r x 1 ∈ N1 r ∧ less r (less r x 1) 1 = x ∧ less r x 1 ≠ x := by
  obtain ⟨h1, h2⟩ := N1_mem.mp hx
  have hl : r.length = x.length := by rw [RT_l8 hr, RT_l8 h1]
  have hm : mulS r x = 4 := by rw [(RT_lat hr).dot (RT_lat h1), h2]; rfl
  have hd := (diff_root hr h1 hm).1
  refine ⟨N1_mem.mpr ⟨hd, dot_of (RT_lat hr) (RT_lat hd) ?_⟩, less_back hl, fun e => ?_⟩
  · rw [mulS_less' 1 hl, RT_sq hr, hm]; rfl
  · have := mulS_less (t := x) 1 hl
    rw [e, RT_sq h1, hm] at this
    cases this
def N28 (r : List Int) : List (List Int) := (N1 r).filter fun x => ltR x (less r x 1)
/-- half of those with a property that both of a pair have -/
theorem N28_half {r : List Int} (hr : r ∈ RT) (p : List Int → Bool) (hp : ∀ x ∈ N1 r, p (less r x 1) = p x) : 2 * (N28 r).countP p = (N1 r).countP p := by
  have hq : ((N1 r).map fun x => less r x 1).Perm (N1 r) := by
    refine (List.perm_ext_iff_of_nodup (map_nodup (N1_nodup r) fun a ha b hb e => ?_) (N1_nodup r)).mpr fun y => ⟨fun h => ?_, fun h => ?_⟩
    · rw [← (N1_less hr ha).2.1, e, (N1_less hr hb).2.1]
    · obtain ⟨x, hx, rfl⟩ := List.mem_map.mp h
      exact (N1_less hr hx).1
    · exact List.mem_map.mpr ⟨less r y 1, (N1_less hr h).1, (N1_less hr h).2.1⟩
  have e1 : (N1 r).countP (fun x => p x && ltR x (less r x 1)) = (N1 r).countP fun x => p x && !ltR x (less r x 1) := by
    rw [← hq.countP_eq, List.countP_map]
    refine List.countP_congr fun x hx => ?_
    show (p (less r x 1) && ltR (less r x 1) (less r (less r x 1) 1)) = true ↔ _
    rw [(N1_less hr hx).2.1, hp x hx]
    have : ltR (less r x 1) x = !ltR x (less r x 1) := by
      cases q : ltR x (less r x 1) with
      | true => rw [tot_row.asym q]; rfl
      | false =>
        cases q2 : ltR (less r x 1) x with
        | true => rfl
        | false => exact absurd (tot_row.tri _ _ q2 q) (N1_less hr hx).2.2
    rw [this]
  have e2 : ∀ l : List (List Int), l.countP p = l.countP (fun x => p x && ltR x (less r x 1)) + l.countP fun x => p x && !ltR x (less r x 1) := by
    intro l
    induction l with
    | nil => rfl
    | cons x l ih =>
      rw [List.countP_cons, List.countP_cons, List.countP_cons, ih]
      cases p x <;> cases ltR x (less r x 1) <;> simp <;> omega
  have e3 : (N28 r).countP p = (N1 r).countP fun x => p x && ltR x (less r x 1) := by
    unfold N28
    rw [List.countP_filter]
  have := e2 (N1 r)
  omega
theorem N28_len {r : List Int} (hr : r ∈ RT) : (N28 r).length = 28 := by
  have h := N28_half hr (fun _ => true) fun _ _ => rfl
  have := N1_len r hr
  simp at h
  omega
end Pf

set_option Elab.async false
set_option linter.all false
set_option maxRecDepth 100000
set_option maxHeartbeats 1000000
namespace Pf
open PySem PySem.Spec PyProof.Rows L2

/-! ## so many lines in so small a span -/
theorem quad_nn {x y : List Int} (h : x.length = y.length) (a b : Int) : 0 ≤ a * a * mulS x x - 2 * (a * b) * mulS x y + b * b * mulS y y := by
  have h1 := mulS_nn (less (smul a x) y b)
  have hl : (smul a x).length = y.length := by rw [smul_len, h]
  rw [mulS_less b hl, mulS_less' b hl, mulS_less' b hl, mulS_smul, mulS_smul, mulS_comm x (smul a x), mulS_smul, mulS_comm y (smul a x), mulS_smul] at h1
  grind
theorem cs_ineq {x y : List Int} (h : x.length = y.length) : mulS x y * mulS x y ≤ mulS x x * mulS y y := by
  have hx := mulS_nn x
  have hy := mulS_nn y
  rcases (show mulS y y = 0 ∨ 0 < mulS y y by omega) with h0 | h0
  · have q := quad_nn h 1 (mulS x y * (mulS x x + 1))
    rw [h0] at q ⊢
    generalize mulS x y = P at q ⊢
    generalize mulS x x = X at hx q ⊢
    have hp := sq_nn P
    rcases (show P * P = 0 ∨ 1 ≤ P * P by omega) with hp0 | hp1
    · omega
    · have e : 2 * (1 * (P * (X + 1))) * P = 2 * ((P * P) * (X + 1)) := by grind
      rw [e] at q
      have : 1 * (X + 1) ≤ (P * P) * (X + 1) := Int.mul_le_mul_of_nonneg_right hp1 (by omega)
      omega
  · have q := quad_nn h (mulS y y) (mulS x y)
    generalize mulS x y = P at q ⊢
    generalize mulS x x = X at hx q ⊢
    generalize mulS y y = Y at hy h0 q ⊢
    have e : Y * Y * X - 2 * (Y * P) * P + P * P * Y = Y * (X * Y - P * P) := by grind
    rw [e] at q
    have := Int.nonneg_of_mul_nonneg_right q h0
    omega
theorem zero_of {y : List Int} (h : mulS y y = 0) {x : List Int} (hl : x.length = y.length) : mulS x y = 0 := by
  have q := cs_ineq hl
  rw [h] at q
  have := sq_nn (mulS x y)
  have e : mulS x y * mulS x y = 0 := by omega
  rcases Int.mul_eq_zero.mp e with e | e <;> exact e
/-! ### squares of vectors -/
def ten (u v : List Int) : List Int := u.flatMap fun x => smul x v
theorem ten_cons (a : Int) (u v : List Int) : ten (a :: u) v = smul a v ++ ten u v := by unfold ten; rw [List.flatMap_cons]
theorem ten_len (u v : List Int) : (ten u v).length = u.length * v.length := by
  induction u with
  | nil => simp [ten]
  | cons a u ih => rw [ten_cons, List.length_append, ih, smul_len, List.length_cons, Nat.succ_mul]; omega
theorem mulS_app : ∀ {p p' q q' : List Int}, p.length = p'.length → mulS (p ++ q) (p' ++ q') = mulS p p' + mulS q q'
  | [], [], q, q', _ => by simp [mulS]
  | a :: p, b :: p', q, q', h => by
    rw [List.cons_append, List.cons_append, mulS_cons, mulS_cons, mulS_app (Nat.succ.inj h)]
    omega
theorem mulS_ten : ∀ {u u' v v' : List Int}, u.length = u'.length → v.length = v'.length → mulS (ten u v) (ten u' v') = mulS u u' * mulS v v'
  | [], [], v, v', _, _ => by simp [ten, mulS]
  | a :: u, b :: u', v, v', h, hv => by
    rw [ten_cons, ten_cons, mulS_app (by rw [smul_len, smul_len, hv]), mulS_ten (Nat.succ.inj h) hv, mulS_cons, mulS_smul, mulS_comm v, mulS_smul, mulS_comm v']
    grind
def wsum (l : List (Int × List Int)) : List Int := l.foldr (fun p acc => add (smul p.1 (ten p.2 p.2)) acc) (List.replicate 64 0)
theorem wsum_len : ∀ {l : List (Int × List Int)}, (∀ p ∈ l, p.2.length = 8) → (wsum l).length = 64
  | [], _ => by simp [wsum]
  | p :: l, h => by
    have h8 := h p List.mem_cons_self
    have ih := wsum_len fun q hq => h q (List.mem_cons_of_mem _ hq)
    show (add (smul p.1 (ten p.2 p.2)) (wsum l)).length = 64
    rw [add_len (by rw [smul_len, ten_len, h8, ih]), smul_len, ten_len, h8]
theorem mulS_repl (n : Nat) (t : List Int) : mulS (List.replicate n 0) t = 0 := by
  induction n generalizing t with
  | zero => simp [mulS]
  | succ n ih =>
    cases t with
    | nil => simp [mulS]
    | cons a t => rw [List.replicate_succ, mulS_cons, ih]; omega
theorem mulS_wsum {t : List Int} : ∀ {l : List (Int × List Int)}, (∀ p ∈ l, p.2.length = 8) → mulS (wsum l) t = (l.map fun p => p.1 * mulS (ten p.2 p.2) t).sum
  | [], _ => mulS_repl 64 t
  | p :: l, h => by
    have h8 := h p List.mem_cons_self
    have hq := fun q hq => h q (List.mem_cons_of_mem _ hq)
    show mulS (add (smul p.1 (ten p.2 p.2)) (wsum l)) t = _
    rw [mulS_add (by rw [smul_len, ten_len, h8, wsum_len hq]), mulS_smul, mulS_wsum hq, List.map_cons, List.sum_cons]
theorem wsum_ten {v : List Int} (hv : v.length = 8) {l : List (Int × List Int)} (h : ∀ p ∈ l, p.2.length = 8) : mulS (wsum l) (ten v v) = (l.map fun p => p.1 * (mulS v p.2 * mulS v p.2)).sum := by
  rw [mulS_wsum h]
  congr 1
  refine List.map_congr_left fun p hp => ?_
  rw [mulS_ten (by rw [h p hp, hv]) (by rw [h p hp, hv]), mulS_comm p.2 v]
/-! ### lines at right angles to each other, and what they span -/
abbrev Bs := List (List Int × Int)
structure GS (M : Int) (B : Bs) : Prop where
  pos : 0 < M
  len : ∀ p ∈ B, p.1.length = 8
  nrm : ∀ p ∈ B, p.2 * mulS p.1 p.1 = M
  ort : B.Pairwise fun p q => mulS p.1 q.1 = 0
def pr (B : Bs) (v t : List Int) : Int := (B.map fun p => p.2 * (mulS v p.1 * mulS p.1 t)).sum
structure Sp (M : Int) (B : Bs) (v : List Int) : Prop where
  len : v.length = 8
  eq : ∀ t : List Int, t.length = 8 → M * mulS v t = pr B v t
theorem pr_comm (B : Bs) (v t : List Int) : pr B v t = pr B t v := by
  unfold pr
  congr 1
  refine List.map_congr_left fun p _ => ?_
  rw [mulS_comm v, mulS_comm p.1 t, Int.mul_comm (mulS p.1 v)]
theorem pr_lin (B : Bs) {v w : List Int} (h : v.length = w.length) (a b : Int) (t : List Int) : pr B (less (smul a v) w b) t = a * pr B v t - b * pr B w t := by
  unfold pr
  induction B with
  | nil => simp
  | cons p B ih =>
    rw [List.map_cons, List.sum_cons, List.map_cons, List.sum_cons, List.map_cons, List.sum_cons, ih, mulS_less b (by rw [smul_len, h]), mulS_smul]
    grind
theorem Sp.back {M : Int} {B : Bs} {v w : List Int} {a b : Int} (ha : a ≠ 0) (hv : v.length = 8) (hw : Sp M B w) (h : Sp M B (less (smul a v) w b)) : Sp M B v := by
  refine ⟨hv, fun t ht => ?_⟩
  have h1 := h.eq t ht
  have h2 := hw.eq t ht
  have hl : v.length = w.length := by rw [hv, hw.len]
  rw [pr_lin B hl, mulS_less b (by rw [smul_len, hl]), mulS_smul] at h1
  have e : a * (M * mulS v t) = a * pr B v t := by grind
  exact Int.eq_of_mul_eq_mul_left ha e
theorem Sp.lin {M : Int} {B : Bs} {v w : List Int} {a b : Int} (hv : Sp M B v) (hw : Sp M B w) : Sp M B (less (smul a v) w b) := by
  have hl : v.length = w.length := by rw [hv.len, hw.len]
  refine ⟨by rw [less_len (by rw [smul_len, hl]), smul_len, hv.len], fun t ht => ?_⟩
  have h1 := hv.eq t ht
  have h2 := hw.eq t ht
  rw [pr_lin B hl, mulS_less b (by rw [smul_len, hl]), mulS_smul]
  grind
theorem sum_zero {α : Type} {f : α → Int} : ∀ {l : List α}, (∀ x ∈ l, f x = 0) → (l.map f).sum = 0
  | [], _ => rfl
  | x :: l, h => by
    rw [List.map_cons, List.sum_cons, h x List.mem_cons_self, sum_zero fun y hy => h y (List.mem_cons_of_mem _ hy)]
    rfl
theorem pr_self {M : Int} : ∀ {B : Bs}, (∀ p ∈ B, p.2 * mulS p.1 p.1 = M) → (B.Pairwise fun p q => mulS p.1 q.1 = 0) → ∀ p ∈ B, ∀ t, pr B p.1 t = M * mulS p.1 t
  | q :: B, hn, ho, p, hp, t => by
    obtain ⟨o1, o2⟩ := List.pairwise_cons.mp ho
    show q.2 * (mulS p.1 q.1 * mulS q.1 t) + pr B p.1 t = _
    rcases List.mem_cons.mp hp with rfl | hp
    · have z : pr B p.1 t = 0 := sum_zero fun r hr => by rw [o1 r hr]; simp
      rw [z, ← hn p List.mem_cons_self]
      grind
    · rw [pr_self (fun r hr => hn r (List.mem_cons_of_mem _ hr)) o2 p hp t, mulS_comm p.1 q.1, o1 p hp]
      simp
def prv (B : Bs) (v : List Int) : List Int := B.foldr (fun p acc => add (smul (p.2 * mulS v p.1) p.1) acc) (List.replicate 8 0)
theorem prv_len (v : List Int) : ∀ {B : Bs}, (∀ p ∈ B, p.1.length = 8) → (prv B v).length = 8
  | [], _ => by simp [prv]
  | p :: B, h => by
    have h8 := h p List.mem_cons_self
    have ih := prv_len v fun q hq => h q (List.mem_cons_of_mem _ hq)
    show (add (smul (p.2 * mulS v p.1) p.1) (prv B v)).length = 8
    rw [add_len (by rw [smul_len, h8, ih]), smul_len, h8]
theorem mulS_prv (v : List Int) {t : List Int} : ∀ {B : Bs}, (∀ p ∈ B, p.1.length = 8) → mulS (prv B v) t = pr B v t
  | [], _ => mulS_repl 8 t
  | p :: B, h => by
    have h8 := h p List.mem_cons_self
    have hq := fun q hq => h q (List.mem_cons_of_mem _ hq)
    show mulS (add (smul (p.2 * mulS v p.1) p.1) (prv B v)) t = p.2 * (mulS v p.1 * mulS p.1 t) + pr B v t
    rw [mulS_add (by rw [smul_len, prv_len v hq, h8]), mulS_smul, mulS_prv v hq, Int.mul_assoc]
theorem pr_scale (B : Bs) (n : Int) (v t : List Int) : pr (B.map fun p => (p.1, p.2 * n)) v t = n * pr B v t := by
  unfold pr
  rw [List.map_map]
  induction B with
  | nil => simp
  | cons p B ih =>
    rw [List.map_cons, List.sum_cons, List.map_cons, List.sum_cons, ih]
    show p.2 * n * (mulS v p.1 * mulS p.1 t) + _ = _
    grind
theorem gs_step {M : Int} {B : Bs} (G : GS M B) {w : List Int} (hw : w.length = 8) : ∃ M' B', GS M' B' ∧ B'.length ≤ B.length + 1 ∧ Sp M' B' w ∧ ∀ v, Sp M B v → Sp M' B' v := by
  have hm := prv_len w G.len
  have hl : (smul M w).length = (prv B w).length := by rw [smul_len, hw, hm]
  obtain ⟨w', hw'⟩ : ∃ w', w' = less (smul M w) (prv B w) 1 := ⟨_, rfl⟩
  have l' : w'.length = 8 := by rw [hw', less_len hl, smul_len, hw]
  have e' : ∀ t, mulS w' t = M * mulS w t - pr B w t := fun t => by rw [hw', mulS_less 1 hl, mulS_smul, mulS_prv w G.len]; omega
  have ob : ∀ p ∈ B, mulS w' p.1 = 0 := fun p hp => by
    rw [e', pr_comm, pr_self G.nrm G.ort p hp, mulS_comm w]
    omega
  by_cases h0 : mulS w' w' = 0
  · refine ⟨M, B, G, Nat.le_succ _, ⟨hw, fun t ht => ?_⟩, fun v hv => hv⟩
    have z := zero_of h0 (x := t) (by rw [ht, l'])
    rw [mulS_comm, e'] at z
    omega
  · have n0 := mulS_nn w'
    obtain ⟨n, hn⟩ : ∃ n, n = mulS w' w' := ⟨_, rfl⟩
    have np : 0 < n := by omega
    have en : n = M * mulS w w' := by
      have z : pr B w w' = 0 := sum_zero fun p hp => by rw [mulS_comm p.1 w', ob p hp]; simp
      have := e' w'
      rw [z] at this
      omega
    refine ⟨M * n, (w', M) :: B.map (fun p => (p.1, p.2 * n)), ⟨Int.mul_pos G.pos np, ?_, ?_, ?_⟩, by simp, ⟨hw, fun t ht => ?_⟩, fun v hv => ⟨hv.len, fun t ht => ?_⟩⟩
    · intro p hp
      rcases List.mem_cons.mp hp with rfl | hp
      · exact l'
      · obtain ⟨q, hq, rfl⟩ := List.mem_map.mp hp
        exact G.len q hq
    · intro p hp
      rcases List.mem_cons.mp hp with rfl | hp
      · show M * mulS w' w' = _
        rw [hn]
      · obtain ⟨q, hq, rfl⟩ := List.mem_map.mp hp
        show q.2 * n * mulS q.1 q.1 = _
        rw [← G.nrm q hq]
        grind
    · refine List.pairwise_cons.mpr ⟨fun p hp => ?_, List.pairwise_map.mpr G.ort⟩
      obtain ⟨q, hq, rfl⟩ := List.mem_map.mp hp
      exact ob q hq
    · show _ = M * (mulS w w' * mulS w' t) + pr (B.map fun p => (p.1, p.2 * n)) w t
      rw [pr_scale, e' t]
      grind
    · show _ = M * (mulS v w' * mulS w' t) + pr (B.map fun p => (p.1, p.2 * n)) v t
      have hv2 := hv.eq w hw
      have z : mulS v w' = 0 := by
        rw [mulS_comm, e', pr_comm, ← hv2, mulS_comm w v]
        omega
      rw [pr_scale, z, ← hv.eq t ht]
      grind
theorem gs_ex : ∀ (W : List (List Int)), (∀ w ∈ W, w.length = 8) → ∃ M B, GS M B ∧ B.length ≤ W.length ∧ ∀ w ∈ W, Sp M B w
  | [], _ => ⟨1, [], ⟨by decide, fun _ h => (by cases h), fun _ h => (by cases h), .nil⟩, Nat.le_refl _, fun _ h => (by cases h)⟩
  | w :: W, h => by
    obtain ⟨M, B, G, hl, hS⟩ := gs_ex W fun v hv => h v (List.mem_cons_of_mem _ hv)
    obtain ⟨M', B', G', hl', h1, h2⟩ := gs_step G (h w List.mem_cons_self)
    refine ⟨M', B', G', by rw [List.length_cons]; omega, fun v hv => ?_⟩
    rcases List.mem_cons.mp hv with rfl | hv
    · exact h1
    · exact h2 v (hS v hv)
/-- lines of square 24 with products 8 and -8 in what B spans -/
theorem lines_le {M : Int} {B : Bs} (G : GS M B) {S : List (List Int)} (h1 : ∀ v ∈ S, Sp M B v ∧ mulS v v = 24) (h2 : S.Pairwise fun u v => mulS u v * mulS u v = 64) : 9 * (S.length * S.length) ≤ (8 * S.length + S.length * S.length) * B.length := by
  have TT : ∀ S : List (List Int), (∀ v ∈ S, v.length = 8 ∧ mulS v v = 24) → (S.Pairwise fun u v => mulS u v * mulS u v = 64) → mulS (wsum (S.map fun v => (1, v))) (wsum (S.map fun v => (1, v))) = 512 * (S.length : Int) + 64 * ((S.length : Int) * (S.length : Int)) := by
    intro S
    induction S with
    | nil => intro _ _; exact mulS_repl 64 _
    | cons v S ih =>
      intro hv ho
      obtain ⟨o1, o2⟩ := List.pairwise_cons.mp ho
      have v8 := hv v List.mem_cons_self
      have hq := fun u hu => hv u (List.mem_cons_of_mem _ hu)
      have hS : ∀ p ∈ S.map (fun v => ((1 : Int), v)), p.2.length = 8 := fun p hp => by
        obtain ⟨u, hu, rfl⟩ := List.mem_map.mp hp
        exact (hq u hu).1
      have l1 : (smul 1 (ten v v)).length = (wsum (S.map fun v => ((1 : Int), v))).length := by rw [smul_len, ten_len, v8.1, wsum_len hS]
      show mulS (add (smul 1 (ten v v)) (wsum (S.map fun v => (1, v)))) (add (smul 1 (ten v v)) (wsum (S.map fun v => (1, v)))) = _
      have c1 : mulS (wsum (S.map fun v => ((1 : Int), v))) (ten v v) = 64 * (S.length : Int) := by
        rw [wsum_ten v8.1 hS, List.map_map]
        have : ∀ l : List (List Int), (∀ u ∈ l, mulS v u * mulS v u = 64) → (l.map ((fun p : Int × List Int => p.1 * (mulS v p.2 * mulS v p.2)) ∘ fun v => ((1 : Int), v))).sum = 64 * (l.length : Int) := by
          intro l
          induction l with
          | nil => intro _; rfl
          | cons u l ihl =>
            intro hu
            rw [List.map_cons, List.sum_cons, ihl fun y hy => hu y (List.mem_cons_of_mem _ hy)]
            show 1 * (mulS v u * mulS v u) + _ = _
            rw [hu u List.mem_cons_self, List.length_cons]
            omega
        exact this S o1
      rw [mulS_add l1, mulS_smul, mulS_comm (ten v v), mulS_add l1, mulS_smul, mulS_ten rfl rfl, v8.2, mulS_comm (wsum _) (add _ _), mulS_add l1, mulS_smul, mulS_comm (ten v v) (wsum _), c1, ih hq o2, List.length_cons, Int.natCast_add]
      grind
  have QQ : ∀ B : Bs, (∀ p ∈ B, p.1.length = 8) → (∀ p ∈ B, p.2 * mulS p.1 p.1 = M) → (B.Pairwise fun p q => mulS p.1 q.1 = 0) → mulS (wsum (B.map fun p => (p.2, p.1))) (wsum (B.map fun p => (p.2, p.1))) = (B.length : Int) * (M * M) := by
    intro B
    induction B with
    | nil => intro _ _ _; rw [List.length_nil]; exact (mulS_repl 64 _).trans (by simp)
    | cons p B ih =>
      intro hl hn ho
      obtain ⟨o1, o2⟩ := List.pairwise_cons.mp ho
      have p8 := hl p List.mem_cons_self
      have pn := hn p List.mem_cons_self
      have hB : ∀ q ∈ B.map (fun p => (p.2, p.1)), q.2.length = 8 := fun q hq => by
        obtain ⟨u, hu, rfl⟩ := List.mem_map.mp hq
        exact hl u (List.mem_cons_of_mem _ hu)
      have l1 : (smul p.2 (ten p.1 p.1)).length = (wsum (B.map fun p => (p.2, p.1))).length := by rw [smul_len, ten_len, p8, wsum_len hB]
      show mulS (add (smul p.2 (ten p.1 p.1)) (wsum (B.map fun p => (p.2, p.1)))) (add (smul p.2 (ten p.1 p.1)) (wsum (B.map fun p => (p.2, p.1)))) = _
      have c1 : mulS (wsum (B.map fun p => (p.2, p.1))) (ten p.1 p.1) = 0 := by
        rw [wsum_ten p8 hB, List.map_map]
        refine sum_zero fun q hq => ?_
        show q.2 * (mulS p.1 q.1 * mulS p.1 q.1) = 0
        rw [o1 q hq]
        simp
      rw [mulS_add l1, mulS_smul, mulS_comm (ten p.1 p.1), mulS_add l1, mulS_smul, mulS_ten rfl rfl, mulS_comm (wsum _) (add _ _), mulS_add l1, mulS_smul, mulS_comm (ten p.1 p.1) (wsum _), c1, ih (fun q hq => hl q (List.mem_cons_of_mem _ hq)) (fun q hq => hn q (List.mem_cons_of_mem _ hq)) o2, List.length_cons, Int.natCast_add]
      rw [← pn]
      grind
  have hB : ∀ q ∈ B.map (fun p => (p.2, p.1)), q.2.length = 8 := fun q hq => by
    obtain ⟨u, hu, rfl⟩ := List.mem_map.mp hq
    exact G.len u hu
  have hS : ∀ p ∈ S.map (fun v => ((1 : Int), v)), p.2.length = 8 := fun p hp => by
    obtain ⟨u, hu, rfl⟩ := List.mem_map.mp hp
    exact (h1 u hu).1.len
  have TQ : mulS (wsum (S.map fun v => ((1 : Int), v))) (wsum (B.map fun p => (p.2, p.1))) = 24 * (S.length : Int) * M := by
    rw [mulS_wsum hS, List.map_map]
    have : ∀ l : List (List Int), (∀ u ∈ l, Sp M B u ∧ mulS u u = 24) → (l.map ((fun p : Int × List Int => p.1 * mulS (ten p.2 p.2) (wsum (B.map fun p => (p.2, p.1)))) ∘ fun v => ((1 : Int), v))).sum = 24 * (l.length : Int) * M := by
      intro l
      induction l with
      | nil => intro _; simp
      | cons u l ihl =>
        intro hu
        obtain ⟨s1, s2⟩ := hu u List.mem_cons_self
        rw [List.map_cons, List.sum_cons, ihl fun y hy => hu y (List.mem_cons_of_mem _ hy), List.length_cons, Int.natCast_add]
        show 1 * mulS (ten u u) (wsum (B.map fun p => (p.2, p.1))) + _ = _
        rw [mulS_comm, wsum_ten s1.len hB, List.map_map]
        have e := s1.eq u s1.len
        have e2 : pr B u u = (B.map ((fun p : Int × List Int => p.1 * (mulS u p.2 * mulS u p.2)) ∘ fun p => (p.2, p.1))).sum := by
          unfold pr
          congr 1
          refine List.map_congr_left fun p _ => ?_
          show p.2 * (mulS u p.1 * mulS p.1 u) = p.2 * (mulS u p.1 * mulS u p.1)
          rw [mulS_comm p.1 u]
        rw [← e2, ← e, s2]
        grind
    exact this S h1
  have cs := cs_ineq (x := wsum (S.map fun v => ((1 : Int), v))) (y := wsum (B.map fun p => (p.2, p.1))) (by rw [wsum_len hS, wsum_len hB])
  rw [TQ, TT S (fun v hv => ⟨(h1 v hv).1.len, (h1 v hv).2⟩) h2, QQ B G.len G.nrm G.ort] at cs
  have mp : 0 < M * M := Int.mul_pos G.pos G.pos
  have e : (64 * (M * M)) * (9 * ((S.length : Int) * S.length)) ≤ (64 * (M * M)) * ((8 * (S.length : Int) + S.length * S.length) * B.length) := by grind
  have e2 := Int.le_of_mul_le_mul_left e (by omega)
  have e3 : ((9 * (S.length * S.length) : Nat) : Int) ≤ (((8 * S.length + S.length * S.length) * B.length : Nat) : Int) := by push_cast; exact e2
  exact Int.ofNat_le.mp e3
/-- the most lines of a span -/
def mostL (r : Nat) : Nat := [0, 1, 2, 4, 6, 10, 16, 28].getD r 0
theorem most_of {N b r : Nat} (h : 9 * (N * N) ≤ (8 * N + N * N) * b) (hb : b ≤ r) (hr : r ≤ 7) : N ≤ mostL r := by
  rcases Nat.eq_zero_or_pos N with rfl | hN
  · exact Nat.zero_le _
  · have h2 : N * (9 * N) ≤ N * ((8 + N) * r) := by
      have : (8 * N + N * N) * b ≤ (8 * N + N * N) * r := Nat.mul_le_mul_left _ hb
      have e : N * ((8 + N) * r) = (8 * N + N * N) * r := by grind
      have e2 : N * (9 * N) = 9 * (N * N) := by grind
      omega
    have h3 := Nat.le_of_mul_le_mul_left h2 hN
    have : r = 0 ∨ r = 1 ∨ r = 2 ∨ r = 3 ∨ r = 4 ∨ r = 5 ∨ r = 6 ∨ r = 7 := by omega
    rcases this with rfl | rfl | rfl | rfl | rfl | rfl | rfl | rfl
    · show N ≤ 0; omega
    · show N ≤ 1; omega
    · show N ≤ 2; omega
    · show N ≤ 4; omega
    · show N ≤ 6; omega
    · show N ≤ 10; omega
    · show N ≤ 16; omega
    · show N ≤ 28; omega
end Pf

set_option Elab.async false
set_option linter.all false
set_option maxRecDepth 100000
set_option maxHeartbeats 4000000
namespace Pf
open PySem PySem.Spec PyProof.Rows L2
def topS (i : Nat) : Stmt := PySem.Challenge.pw_eightroots_k10_whole_mirrors.main.body.getD i (.Pass ⟨0, 0, 0, 0⟩)
abbrev s_row_product : Stmt := topS 2
theorem sc_row_product : FnScope ["one", "other", "a", "b"] ["one", "other"] (defScope s_row_product) := ⟨rfl, rfl, rfl, by decide +kernel, rfl, by decide +kernel, by decide +kernel⟩
def B_row_product : SS := (sSeq (sRet (eBin gDiv (eCB gSum (aCons (eLc (iZp (aCons (eVar 0) (aCons (eVar 1) aNil))) (tgT 2 (tsCons (tgN 2) (tsCons (tgN 3) tsNil))) bYes (eBin gMul (eVar 2) (eVar 3)) [2, 3]) aNil)) (eInt 4))) sNil)
def F_row_product : Fn := runB B_row_product 2 4
abbrev s_row_less : Stmt := topS 3
theorem sc_row_less : FnScope ["one", "other", "a", "b"] ["one", "other"] (defScope s_row_less) := ⟨rfl, rfl, rfl, by decide +kernel, rfl, by decide +kernel, by decide +kernel⟩
def B_row_less : SS := (sSeq (sRet (eLc (iZp (aCons (eVar 0) (aCons (eVar 1) aNil))) (tgT 2 (tsCons (tgN 2) (tsCons (tgN 3) tsNil))) bYes (eBin gSub (eVar 2) (eVar 3)) [2, 3])) sNil)
def F_row_less : Fn := runB B_row_less 2 4
abbrev s_row_times : Stmt := topS 4
theorem sc_row_times : FnScope ["a", "row", "number"] ["a", "row"] (defScope s_row_times) := ⟨rfl, rfl, rfl, by decide +kernel, rfl, by decide +kernel, by decide +kernel⟩
def B_row_times : SS := (sSeq (sRet (eLc (iSeq (eVar 1)) (tgN 2) bYes (eBin gMul (eVar 0) (eVar 2)) [2])) sNil)
def F_row_times : Fn := runB B_row_times 2 3
abbrev s_even_roots : Stmt := topS 5
theorem sc_even_roots : FnScope ["found", "j", "i", "a", "b", "root"] [] (defScope s_even_roots) := ⟨rfl, rfl, rfl, by decide +kernel, rfl, by decide +kernel, by decide +kernel⟩
def B_even_roots : SS := (sSeq (sSet 0 (eLst aNil)) (sSeq (sFor (iRg1 (aCons (eInt 8) aNil)) (tgN 1) (sSeq (sFor (iRg1 (aCons (eVar 1) aNil)) (tgN 2) (sSeq (sFor (iSeq (eTup (aCons (eTup (aCons (eInt 2) (aCons (eInt 2) aNil))) (aCons (eTup (aCons (eInt 2) (aCons (eUn gNeg (eInt 2)) aNil))) (aCons (eTup (aCons (eUn gNeg (eInt 2)) (aCons (eInt 2) aNil))) (aCons (eTup (aCons (eUn gNeg (eInt 2)) (aCons (eUn gNeg (eInt 2)) aNil))) aNil)))))) (tgT 2 (tsCons (tgN 3) (tsCons (tgN 4) tsNil))) (sSeq (sSet 5 (eBin gMul (eLst (aCons (eInt 0) aNil)) (eInt 8))) (sSeq (sPut 5 (eVar 3) (eVar 2)) (sSeq (sPut 5 (eVar 4) (eVar 1)) (sSeq (sMut 0 gApp (eVar 5)) sNil))))) sNil)) sNil)) (sSeq (sRet (eVar 0)) sNil)))
def F_even_roots : Fn := runB B_even_roots 0 6
abbrev s_odd_roots : Stmt := topS 6
theorem sc_odd_roots : FnScope ["found", "_", "row", "sign"] [] (defScope s_odd_roots) := ⟨rfl, rfl, rfl, by decide +kernel, rfl, by decide +kernel, by decide +kernel⟩
def B_odd_roots : SS := (sSeq (sSet 0 (eLst (aCons (eLst aNil) aNil))) (sSeq (sFor (iRg1 (aCons (eInt 8) aNil)) (tgN 1) (sSeq (sSet 0 (eLc2 (iSeq (eVar 0)) (tgN 2) bYes (iSeq (eTup (aCons (eUn gNeg (eInt 1)) (aCons (eInt 1) aNil)))) (tgN 3) bYes (eBin gAdd (eVar 2) (eLst (aCons (eVar 3) aNil))) [2, 3] [3])) sNil)) (sSeq (sRet (eLc (iSeq (eVar 0)) (tgN 2) (bCmp gEq (eBin gMod (eCB gSum (aCons (eVar 2) aNil)) (eInt 4)) (eInt 0)) (eVar 2) [2])) sNil)))
def F_odd_roots : Fn := runB B_odd_roots 0 4
abbrev s_all_roots : Stmt := topS 7
theorem sc_all_roots : FnScope [] [] (defScope s_all_roots) := ⟨rfl, rfl, rfl, by decide +kernel, rfl, by decide +kernel, by decide +kernel⟩
noncomputable def B_all_roots : SS := (sSeq (sRet (eCB gSorted (aCons (eBin gAdd (eCall0 F_even_roots) (eCall0 F_odd_roots)) aNil))) sNil)
noncomputable def F_all_roots : Fn := runB B_all_roots 0 0
abbrev s_base_roots : Stmt := topS 9
theorem sc_base_roots : FnScope ["found", "i", "root"] [] (defScope s_base_roots) := ⟨rfl, rfl, rfl, by decide +kernel, rfl, by decide +kernel, by decide +kernel⟩
def B_base_roots : SS := (sSeq (sSet 0 (eLst (aCons (eLst (aCons (eInt 1) (aCons (eUn gNeg (eInt 1)) (aCons (eUn gNeg (eInt 1)) (aCons (eUn gNeg (eInt 1)) (aCons (eUn gNeg (eInt 1)) (aCons (eUn gNeg (eInt 1)) (aCons (eUn gNeg (eInt 1)) (aCons (eInt 1) aNil))))))))) (aCons (eLst (aCons (eInt 2) (aCons (eInt 2) (aCons (eInt 0) (aCons (eInt 0) (aCons (eInt 0) (aCons (eInt 0) (aCons (eInt 0) (aCons (eInt 0) aNil))))))))) aNil)))) (sSeq (sFor (iRg1 (aCons (eBin gSub (eInt 8) (eInt 2)) aNil)) (tgN 1) (sSeq (sSet 2 (eBin gMul (eLst (aCons (eInt 0) aNil)) (eInt 8))) (sSeq (sPut 2 (eUn gNeg (eInt 2)) (eVar 1)) (sSeq (sPut 2 (eInt 2) (eBin gAdd (eVar 1) (eInt 1))) (sSeq (sMut 0 gApp (eVar 2)) sNil))))) (sSeq (sRet (eVar 0)) sNil)))
def F_base_roots : Fn := runB B_base_roots 0 3
abbrev s_mirrored : Stmt := topS 11
theorem sc_mirrored : FnScope ["root", "row"] ["root", "row"] (defScope s_mirrored) := ⟨rfl, rfl, rfl, by decide +kernel, rfl, by decide +kernel, by decide +kernel⟩
def B_mirrored : SS := (sSeq (sRet (eCall F_row_less (aCons (eVar 1) (aCons (eCall F_row_times (aCons (eCall F_row_product (aCons (eVar 0) (aCons (eVar 1) aNil))) (aCons (eVar 0) aNil))) aNil)))) sNil)
def F_mirrored : Fn := runB B_mirrored 2 2
abbrev s_mirrored_by : Stmt := topS 12
theorem sc_mirrored_by : FnScope ["roots", "row", "found", "root"] ["roots", "row"] (defScope s_mirrored_by) := ⟨rfl, rfl, rfl, by decide +kernel, rfl, by decide +kernel, by decide +kernel⟩
def B_mirrored_by : SS := (sSeq (sSet 2 (eCB gList (aCons (eVar 1) aNil))) (sSeq (sFor (iSeq (eVar 0)) (tgN 3) (sSeq (sSet 2 (eCall F_mirrored (aCons (eVar 3) (aCons (eVar 2) aNil)))) sNil)) (sSeq (sRet (eVar 2)) sNil)))
def F_mirrored_by : Fn := runB B_mirrored_by 2 4
abbrev s_one_mirror : Stmt := topS 13
theorem sc_one_mirror : FnScope ["roots", "root", "other", "own"] ["roots", "root", "other"] (defScope s_one_mirror) := ⟨rfl, rfl, rfl, by decide +kernel, rfl, by decide +kernel, by decide +kernel⟩
def B_one_mirror : SS := (sSeq (sFor (iSeq (eVar 0)) (tgN 3) (sSeq (sIf (bCmp gEq (eCall F_mirrored (aCons (eVar 3) (aCons (eVar 1) aNil))) (eVar 2)) (sSeq (sRet (eVar 3)) sNil) sNil) sNil)) (sSeq (sRet eNon) sNil))
def F_one_mirror : Fn := runB B_one_mirror 3 4
abbrev s_lead_root : Stmt := topS 14
theorem sc_lead_root : FnScope ["root", "other", "roots", "first", "between"] ["root", "other"] (defScope s_lead_root) := ⟨rfl, rfl, rfl, by decide +kernel, rfl, by decide +kernel, by decide +kernel⟩
noncomputable def B_lead_root : SS := (sSeq (sIf (bCmp gEq (eVar 0) (eVar 1)) (sSeq (sRet (eLst aNil)) sNil) sNil) (sSeq (sSet 2 (eCall0 F_all_roots)) (sSeq (sIf (bCmp (gIn false) (eCall F_row_product (aCons (eVar 0) (aCons (eVar 1) aNil))) (eTup (aCons (eInt 1) (aCons (eUn gNeg (eInt 2)) aNil)))) (sSeq (sRet (eLst (aCons (eCall F_one_mirror (aCons (eVar 2) (aCons (eVar 0) (aCons (eVar 1) aNil)))) aNil))) sNil) sNil) (sSeq (sFor (iSeq (eVar 2)) (tgN 3) (sSeq (sSet 4 (eCall F_mirrored (aCons (eVar 3) (aCons (eVar 0) aNil)))) (sSeq (sIf (bCmp (gIn false) (eCall F_row_product (aCons (eVar 4) (aCons (eVar 1) aNil))) (eTup (aCons (eInt 1) (aCons (eUn gNeg (eInt 2)) aNil)))) (sSeq (sRet (eLst (aCons (eVar 3) (aCons (eCall F_one_mirror (aCons (eVar 2) (aCons (eVar 4) (aCons (eVar 1) aNil)))) aNil)))) sNil) sNil) sNil))) (sSeq (sRet eNon) sNil)))))
noncomputable def F_lead_root : Fn := runB B_lead_root 2 5
abbrev s_closed_by_mirrors : Stmt := topS 15
theorem sc_closed_by_mirrors : FnScope ["rows", "met", "line", "new", "row", "root", "other"] ["rows"] (defScope s_closed_by_mirrors) := ⟨rfl, rfl, rfl, by decide +kernel, rfl, by decide +kernel, by decide +kernel⟩
noncomputable def B_closed_by_mirrors : SS := (sSeq (sSet 1 (eTdc (iSeq (eVar 0)) (tgN 4) bYes (eCB gTuple (aCons (eVar 4) aNil)) (eBl true) [4])) (sPeekK 1 [.p, .r, .o, .r, .r, .r, .r] (sSeq (sSet 2 (eLc (iKeysD (eVar 1)) (tgN 4) bYes (eCB gList (aCons (eVar 4) aNil)) [4])) sNil) (sSeq (whGo (bTru (eVar 2)) (sSeq (sSet 3 (eLst aNil)) (sSeq (sFor (iSeq (eVar 2)) (tgN 4) (sSeq (sFor (iSeq (eVar 0)) (tgN 5) (sSeq (sSet 6 (eCall F_mirrored (aCons (eVar 5) (aCons (eVar 4) aNil)))) (sSeq (sIf (bVal (eTIn true (eCB gTuple (aCons (eVar 6) aNil)) (eVar 1))) (sSeq (sPutT 1 (eBl true) (eCB gTuple (aCons (eVar 6) aNil))) (sSeq (sMut 3 gApp (eVar 6)) sNil)) sNil) sNil))) sNil)) (sSeq (sSet 2 (eVar 3)) sNil))) 4096) (sSeq (sRet (eCB gSorted (aCons (ePeek 1 (eLc (iKeysD (eVar 1)) (tgN 4) bYes (eCB gList (aCons (eVar 4) aNil)) [4])) aNil))) sNil))))
noncomputable def F_closed_by_mirrors : Fn := runB B_closed_by_mirrors 1 7
abbrev s_round_of_mirrors : Stmt := topS 16
theorem sc_round_of_mirrors : FnScope ["rows", "begin", "here", "times", "row"] ["rows"] (defScope s_round_of_mirrors) := ⟨rfl, rfl, rfl, by decide +kernel, rfl, by decide +kernel, by decide +kernel⟩
def B_round_of_mirrors : SS := (sSeq (sSet 1 (eCall0 F_base_roots)) (sSeq (sSet 2 (eLc (iSeq (eVar 1)) (tgN 4) bYes (eCall F_mirrored_by (aCons (eVar 0) (aCons (eVar 4) aNil))) [4])) (sSeq (sSet 3 (eInt 1)) (sSeq (whGo (bCmp gNe (eVar 2) (eVar 1)) (sSeq (sSet 2 (eLc (iSeq (eVar 2)) (tgN 4) bYes (eCall F_mirrored_by (aCons (eVar 0) (aCons (eVar 4) aNil))) [4])) (sSeq (sAug 3 (fun i j => i + j) (eInt 1)) sNil)) 11007531417600000001) (sSeq (sRet (eVar 3)) sNil)))))
def F_round_of_mirrors : Fn := runB B_round_of_mirrors 1 5
abbrev s__law_feed : Stmt := topS 18
theorem sc__law_feed : FnScope ["script"] ["script"] (defScope s__law_feed) := ⟨rfl, rfl, rfl, by decide +kernel, rfl, by decide +kernel, by decide +kernel⟩
abbrev s__law_draw : Stmt := topS 19
abbrev F__law_draw : Fn := drawF
theorem sc__law_draw : FnScope ["feed", "many", "cell", "told", "mixed"] ["feed", "many"] (defScope s__law_draw) := ⟨rfl, rfl, rfl, by decide +kernel, rfl, by decide +kernel, by decide +kernel⟩
abbrev s__law_whole : Stmt := topS 20
theorem sc__law_whole : FnScope ["x"] ["x"] (defScope s__law_whole) := ⟨rfl, rfl, rfl, by decide +kernel, rfl, by decide +kernel, by decide +kernel⟩
def B__law_whole : SS := (sSeq (sRet (eAnd (eUn (gIsi "int") (eVar 0)) (eNot (eUn (gIsi "bool") (eVar 0))))) sNil)
def F__law_whole : Fn := runB B__law_whole 1 1
abbrev s__law_wholes : Stmt := topS 21
theorem sc__law_wholes : FnScope ["x", "n", "k"] ["x", "n"] (defScope s__law_wholes) := ⟨rfl, rfl, rfl, by decide +kernel, rfl, by decide +kernel, by decide +kernel⟩
def B__law_wholes : SS := (sSeq (sIf (bOr (bNot (bTru (eUn (gIsi "list") (eVar 0)))) (bCmp gNe (eCB gLen (aCons (eVar 0) aNil)) (eVar 1))) (sSeq (sRet (eBl false)) sNil) sNil) (sSeq (sRet (eCB gAll (aCons (eLc (iSeq (eVar 0)) (tgN 2) bYes (eCall F__law_whole (aCons (eVar 2) aNil)) [2]) aNil))) sNil))
def F__law_wholes : Fn := runB B__law_wholes 2 3
abbrev s__law_roots : Stmt := topS 22
theorem sc__law_roots : FnScope ["found", "i", "j", "a", "b", "number", "signs", "k"] [] (defScope s__law_roots) := ⟨rfl, rfl, rfl, by decide +kernel, rfl, by decide +kernel, by decide +kernel⟩
noncomputable def B__law_roots : SS := (sSeq (sSet 0 (eLst aNil)) (sSeq (sFor (iRg1 (aCons (eInt 8) aNil)) (tgN 1) (sSeq (sFor (iRg2 (aCons (eBin gAdd (eVar 1) (eInt 1)) (aCons (eInt 8) aNil))) (tgN 2) (sSeq (sFor (iSeq (eLst (aCons (eUn gNeg (eInt 2)) (aCons (eInt 2) aNil)))) (tgN 3) (sSeq (sFor (iSeq (eLst (aCons (eUn gNeg (eInt 2)) (aCons (eInt 2) aNil)))) (tgN 4) (sSeq (sMut 0 gApp (eLc (iRg1 (aCons (eInt 8) aNil)) (tgN 7) bYes (eBin gAdd (eBin gMul (eVar 3) (eCB gInt (aCons (eBin gEq (eVar 7) (eVar 1)) aNil))) (eBin gMul (eVar 4) (eCB gInt (aCons (eBin gEq (eVar 7) (eVar 2)) aNil)))) [7])) sNil)) sNil)) sNil)) sNil)) (sSeq (sFor (iRg1 (aCons (eInt 256) aNil)) (tgN 5) (sSeq (sSet 6 (eLc (iRg1 (aCons (eInt 8) aNil)) (tgN 7) bYes (eBin gSub (eInt 1) (eBin gMul (eInt 2) (eBin gAnd (eCB gInt (aCons (eBin gShr (eVar 5) (eVar 7)) aNil)) (eInt 1)))) [7])) (sSeq (sIf (bCmp gEq (eBin gMod (eCB gInt (aCons (eCnt (eVar 6) (eUn gNeg (eInt 1))) aNil)) (eInt 2)) (eInt 0)) (sSeq (sMut 0 gApp (eVar 6)) sNil) sNil) sNil))) (sSeq (sRet (eCB gSorted (aCons (eVar 0) aNil))) sNil))))
noncomputable def F__law_roots : Fn := runB B__law_roots 0 8
abbrev s__law_product : Stmt := topS 23
theorem sc__law_product : FnScope ["one", "other", "k"] ["one", "other"] (defScope s__law_product) := ⟨rfl, rfl, rfl, by decide +kernel, rfl, by decide +kernel, by decide +kernel⟩
def B__law_product : SS := (sSeq (sRet (eBin gDiv (eCB gSum (aCons (eLc (iRg1 (aCons (eInt 8) aNil)) (tgN 2) bYes (eBin gMul (eBin gIx (eVar 0) (eVar 2)) (eBin gIx (eVar 1) (eVar 2))) [2]) aNil)) (eInt 4))) sNil)
def F__law_product : Fn := runB B__law_product 2 3
abbrev s__law_mirror : Stmt := topS 24
theorem sc__law_mirror : FnScope ["root", "row", "many", "k"] ["root", "row"] (defScope s__law_mirror) := ⟨rfl, rfl, rfl, by decide +kernel, rfl, by decide +kernel, by decide +kernel⟩
def B__law_mirror : SS := (sSeq (sSet 2 (eCall F__law_product (aCons (eVar 0) (aCons (eVar 1) aNil)))) (sSeq (sRet (eLc (iRg1 (aCons (eInt 8) aNil)) (tgN 3) bYes (eBin gSub (eBin gIx (eVar 1) (eVar 3)) (eBin gMul (eVar 2) (eBin gIx (eVar 0) (eVar 3)))) [3])) sNil))
def F__law_mirror : Fn := runB B__law_mirror 2 4
abbrev s__law_close : Stmt := topS 25
theorem sc__law_close : FnScope ["rows", "met", "row", "line", "step", "new", "root", "other"] ["rows"] (defScope s__law_close) := ⟨rfl, rfl, rfl, by decide +kernel, rfl, by decide +kernel, by decide +kernel⟩
noncomputable def B__law_close : SS := (sSeq (sSet 1 eDctT0) (sSeq (sFor (iSeq (eVar 0)) (tgN 2) (sSeq (sPutT 1 (eBl true) (eCB gTuple (aCons (eVar 2) aNil))) sNil)) (sPeekK 1 [.p, .r, .r, .o, .r, .r, .r, .r] (sSeq (sSet 3 (eLc (iKeysD (eVar 1)) (tgN 2) bYes (eCB gList (aCons (eVar 2) aNil)) [2])) sNil) (sSeq (sFor (iRg1 (aCons (eInt 240) aNil)) (tgN 4) (sSeq (sSet 5 (eLst aNil)) (sSeq (sFor (iSeq (eVar 3)) (tgN 2) (sSeq (sFor (iSeq (eVar 0)) (tgN 6) (sSeq (sSet 7 (eCall F__law_mirror (aCons (eVar 6) (aCons (eVar 2) aNil)))) (sSeq (sIf (bVal (eTIn true (eCB gTuple (aCons (eVar 7) aNil)) (eVar 1))) (sSeq (sPutT 1 (eBl true) (eCB gTuple (aCons (eVar 7) aNil))) (sSeq (sMut 5 gApp (eVar 7)) sNil)) sNil) sNil))) sNil)) (sSeq (sSet 3 (eVar 5)) (sSeq (sIf (bCmp gEq (eCB gLen (aCons (eVar 3) aNil)) (eInt 0)) (sSeq sBrk sNil) sNil) sNil))))) (sSeq (sRet (eCB gSorted (aCons (ePeek 1 (eLc (iKeysD (eVar 1)) (tgN 2) bYes (eCB gList (aCons (eVar 2) aNil)) [2])) aNil))) sNil)))))
noncomputable def F__law_close : Fn := runB B__law_close 1 8
abbrev s__law_row : Stmt := topS 26
theorem sc__law_row : FnScope ["feed", "most", "odd", "row", "last", "step", "k"] ["feed"] (defScope s__law_row) := ⟨rfl, rfl, rfl, by decide +kernel, rfl, by decide +kernel, by decide +kernel⟩
def B__law_row : SS := (sSeq (sSet 1 (eBin gIx (eLst (aCons (eInt 2) (aCons (eInt 4) (aCons (eInt 40) aNil)))) (eCall F__law_draw (aCons (eVar 0) (aCons (eInt 3) aNil))))) (sSeq (sSet 2 (eCall F__law_draw (aCons (eVar 0) (aCons (eInt 2) aNil)))) (sSeq (sSet 3 (eLc (iRg1 (aCons (eInt 7) aNil)) (tgN 6) bYes (eBin gAdd (eBin gMul (eInt 2) (eBin gSub (eCall F__law_draw (aCons (eVar 0) (aCons (eBin gAdd (eBin gMul (eInt 2) (eVar 1)) (eInt 1)) aNil))) (eVar 1))) (eVar 2)) [6])) (sSeq (sSet 4 (eVar 2)) (sSeq (sFor (iRg1 (aCons (eInt 4) aNil)) (tgN 5) (sSeq (sIf (bCmp gGtA (eBin gMod (eCB gInt (aCons (eBin gAdd (eCB gSum (aCons (eVar 3) aNil)) (eVar 4)) aNil)) (eInt 4)) (eInt 0)) (sSeq (sAug 4 (fun i j => i + j) (eInt 2)) sNil) sNil) sNil)) (sSeq (sIf (bCmp gEq (eCall F__law_draw (aCons (eVar 0) (aCons (eInt 2) aNil))) (eInt 0)) (sSeq (sSet 4 (eBin gSub (eVar 4) (eInt 4))) sNil) sNil) (sSeq (sRet (eBin gAdd (eVar 3) (eLst (aCons (eVar 4) aNil)))) sNil)))))))
def F__law_row : Fn := runB B__law_row 1 7
abbrev s__law_lists_same : Stmt := topS 27
theorem sc__law_lists_same : FnScope ["told", "due", "k"] ["told", "due"] (defScope s__law_lists_same) := ⟨rfl, rfl, rfl, by decide +kernel, rfl, by decide +kernel, by decide +kernel⟩
def B__law_lists_same : SS := (sSeq (sIf (bOr (bNot (bTru (eUn (gIsi "list") (eVar 0)))) (bCmp gNe (eCB gLen (aCons (eVar 0) aNil)) (eCB gLen (aCons (eVar 1) aNil)))) (sSeq (sRet (eBl false)) sNil) sNil) (sSeq (sFor (iRg1 (aCons (eCB gLen (aCons (eVar 1) aNil)) aNil)) (tgN 2) (sSeq (sIf (bOr (bNot (bTru (eCall F__law_wholes (aCons (eBin gIx (eVar 0) (eVar 2)) (aCons (eCB gLen (aCons (eBin gIx (eVar 1) (eVar 2)) aNil)) aNil))))) (bCmp gNe (eBin gIx (eVar 0) (eVar 2)) (eBin gIx (eVar 1) (eVar 2)))) (sSeq (sRet (eBl false)) sNil) sNil) sNil)) (sSeq (sRet (eBl true)) sNil)))
def F__law_lists_same : Fn := runB B__law_lists_same 2 3
abbrev s__law_some : Stmt := topS 28
theorem sc__law_some : FnScope ["feed", "roots", "kind", "many", "base", "i", "found", "k", "at", "goal", "fits", "root", "own", "one", "row"] ["feed", "roots"] (defScope s__law_some) := ⟨rfl, rfl, rfl, by decide +kernel, rfl, by decide +kernel, by decide +kernel⟩
def B__law_some : SS := (sSeq (sSet 2 (eCall F__law_draw (aCons (eVar 0) (aCons (eInt 5) aNil)))) (sSeq (sSet 3 (eCall F__law_draw (aCons (eVar 0) (aCons (eInt 5) aNil)))) (sSeq (sIf (bCmp gEq (eCall F__law_draw (aCons (eVar 0) (aCons (eInt 8) aNil))) (eInt 0)) (sSeq (sSet 3 (eCall F__law_draw (aCons (eVar 0) (aCons (eInt 9) aNil)))) sNil) sNil) (sSeq (sSet 4 (eLst (aCons (eLst (aCons (eInt 1) (aCons (eUn gNeg (eInt 1)) (aCons (eUn gNeg (eInt 1)) (aCons (eUn gNeg (eInt 1)) (aCons (eUn gNeg (eInt 1)) (aCons (eUn gNeg (eInt 1)) (aCons (eUn gNeg (eInt 1)) (aCons (eInt 1) aNil))))))))) (aCons (eLst (aCons (eInt 2) (aCons (eInt 2) (aCons (eInt 0) (aCons (eInt 0) (aCons (eInt 0) (aCons (eInt 0) (aCons (eInt 0) (aCons (eInt 0) aNil))))))))) aNil)))) (sSeq (sFor (iRg1 (aCons (eInt 6) aNil)) (tgN 5) (sSeq (sMut 4 gApp (eLc (iRg1 (aCons (eInt 8) aNil)) (tgN 7) bYes (eBin gSub (eBin gMul (eInt 2) (eCB gInt (aCons (eBin gEq (eVar 7) (eBin gAdd (eVar 5) (eInt 1))) aNil))) (eBin gMul (eInt 2) (eCB gInt (aCons (eBin gEq (eVar 7) (eVar 5)) aNil)))) [7])) sNil)) (sSeq (sSet 6 (eLst aNil)) (sSeq (sIf (bCmp gEq (eVar 2) (eInt 0)) (sSeq (sSet 6 (eLc (iRg1 (aCons (eVar 3) aNil)) (tgN 7) bYes (eBin gIx (eVar 1) (eCall F__law_draw (aCons (eVar 0) (aCons (eInt 240) aNil)))) [7])) sNil) sNil) (sSeq (sIf (bCmp gEq (eVar 2) (eInt 1)) (sSeq (sFor (iRg1 (aCons (eVar 3) aNil)) (tgN 7) (sSeq (sPopA 6 4 (eCall F__law_draw (aCons (eVar 0) (aCons (eCB gLen (aCons (eVar 4) aNil)) aNil)))) sNil)) sNil) sNil) (sSeq (sIf (bCmp gEq (eVar 2) (eInt 2)) (sSeq (sSet 8 (eCall F__law_draw (aCons (eVar 0) (aCons (eInt 8) aNil)))) (sSeq (sSet 6 (eSl (eVar 4) (oSome (eVar 8)) (oSome (eBin gAdd (eVar 8) (eVar 3))))) sNil)) sNil) (sSeq (sIf (bCmp gGtA (eVar 2) (eInt 2)) (sSeq (sFor (iRg1 (aCons (eVar 3) aNil)) (tgN 7) (sSeq (sSet 9 (eUn gNeg (eInt 1))) (sSeq (sIf (bAnd (bCmp gEq (eVar 2) (eInt 4)) (bCmp gEq (eCall F__law_draw (aCons (eVar 0) (aCons (eInt 2) aNil))) (eInt 0))) (sSeq (sSet 9 (eInt 0)) sNil) sNil) (sSeq (sSet 10 (eLst aNil)) (sSeq (sFor (iSeq (eVar 1)) (tgN 11) (sSeq (sSet 12 (eLc (iSeq (eVar 6)) (tgN 13) bYes (eCall F__law_product (aCons (eVar 11) (aCons (eVar 13) aNil))) [13])) (sSeq (sIf (bAnd (bCmp gLeA (eCB gMax1 (aCons (eBin gAdd (eVar 12) (eLst (aCons (eUn gNeg (eInt 1)) aNil))) aNil)) (eInt 0)) (bCmp gGeA (eCB gMin1 (aCons (eBin gAdd (eVar 12) (eLst (aCons (eInt 0) aNil))) aNil)) (eVar 9))) (sSeq (sMut 10 gApp (eVar 11)) sNil) sNil) sNil))) (sSeq (sIf (bCmp gGtA (eCB gLen (aCons (eVar 10) aNil)) (eInt 0)) (sSeq (sMut 6 gApp (eBin gIx (eVar 10) (eCall F__law_draw (aCons (eVar 0) (aCons (eCB gLen (aCons (eVar 10) aNil)) aNil))))) sNil) sNil) sNil)))))) sNil) sNil) (sSeq (sRet (eLc (iSeq (eVar 6)) (tgN 14) bYes (eCB gList (aCons (eVar 14) aNil)) [14])) sNil)))))))))))
def F__law_some : Fn := runB B__law_some 2 15
abbrev s__law_one : Stmt := topS 29
theorem sc__law_one : FnScope ["roots", "root", "other", "less", "fits", "own", "half", "k", "x"] ["roots", "root", "other"] (defScope s__law_one) := ⟨rfl, rfl, rfl, by decide +kernel, rfl, by decide +kernel, by decide +kernel⟩
noncomputable def B__law_one : SS := (sSeq (sSet 3 (eLc (iRg1 (aCons (eInt 8) aNil)) (tgN 7) bYes (eBin gSub (eBin gIx (eVar 1) (eVar 7)) (eBin gIx (eVar 2) (eVar 7))) [7])) (sSeq (sSet 4 (eLst aNil)) (sSeq (sFor (iSeq (eLst (aCons (eVar 3) (aCons (eLc (iSeq (eVar 3)) (tgN 8) bYes (eBin gSub (eInt 0) (eVar 8)) [8]) aNil)))) (tgN 5) (sSeq (sIf (bCmp (gIn false) (eVar 5) (eVar 0)) (sSeq (sMut 4 gApp (eVar 5)) sNil) sNil) (sSeq (sIf (bCmp gEq (eCB gLen (aCons (eLc (iSeq (eVar 5)) (tgN 8) (bCmp gEq (eBin gMod (eCB gInt (aCons (eVar 8) aNil)) (eInt 2)) (eInt 1)) (eVar 8) [8]) aNil)) (eInt 0)) (sSeq (sSet 6 (eLc (iSeq (eVar 5)) (tgN 8) bYes (eBin gDiv (eVar 8) (eInt 2)) [8])) (sSeq (sIf (bCmp (gIn false) (eVar 6) (eVar 0)) (sSeq (sMut 4 gApp (eVar 6)) sNil) sNil) sNil)) sNil) sNil))) (sSeq (sSet 4 (eLc (iSeq (eCB gSorted (aCons (eVar 4) aNil))) (tgN 5) (bCmp gEq (eCall F__law_mirror (aCons (eVar 5) (aCons (eVar 1) aNil))) (eVar 2)) (eVar 5) [5])) (sSeq (sIf (bCmp gEq (eCB gLen (aCons (eVar 4) aNil)) (eInt 0)) (sSeq (sRet eNon) sNil) sNil) (sSeq (sRet (eBin gIx (eVar 4) (eInt 0))) sNil))))))
noncomputable def F__law_one : Fn := runB B__law_one 3 9
abbrev s__law_lead : Stmt := topS 30
theorem sc__law_lead : FnScope ["roots", "root", "other", "one", "first", "between", "second"] ["roots", "root", "other"] (defScope s__law_lead) := ⟨rfl, rfl, rfl, by decide +kernel, rfl, by decide +kernel, by decide +kernel⟩
noncomputable def B__law_lead : SS := (sSeq (sIf (bCmp gEq (eVar 1) (eVar 2)) (sSeq (sRet (eLst aNil)) sNil) sNil) (sSeq (sSet 3 (eCall F__law_one (aCons (eVar 0) (aCons (eVar 1) (aCons (eVar 2) aNil))))) (sSeq (sIf (bCmp gIsNot (eVar 3) eNon) (sSeq (sRet (eLst (aCons (eVar 3) aNil))) sNil) sNil) (sSeq (sFor (iSeq (eVar 0)) (tgN 4) (sSeq (sSet 5 (eCall F__law_mirror (aCons (eVar 4) (aCons (eVar 1) aNil)))) (sSeq (sIf (bCmp (gIn false) (eCall F__law_product (aCons (eVar 5) (aCons (eVar 2) aNil))) (eLst (aCons (eInt 1) (aCons (eUn gNeg (eInt 2)) aNil)))) (sSeq (sSet 6 (eCall F__law_one (aCons (eVar 0) (aCons (eVar 5) (aCons (eVar 2) aNil))))) (sSeq (sIf (bCmp gIsNot (eVar 6) eNon) (sSeq (sRet (eLst (aCons (eVar 4) (aCons (eVar 6) aNil)))) sNil) sNil) sNil)) sNil) sNil))) (sSeq (sRet eNon) sNil)))))
noncomputable def F__law_lead : Fn := runB B__law_lead 3 7
abbrev s__law_round : Stmt := topS 31
theorem sc__law_round : FnScope ["roots", "rows", "goes", "root", "here", "own", "number", "met", "size", "step", "a", "b"] ["roots", "rows"] (defScope s__law_round) := ⟨rfl, rfl, rfl, by decide +kernel, rfl, by decide +kernel, by decide +kernel⟩
def B__law_round : SS := (sSeq (sSet 2 eDctT0) (sSeq (sFor (iSeq (eVar 0)) (tgN 3) (sSeq (sSet 4 (eVar 3)) (sSeq (sFor (iSeq (eVar 1)) (tgN 5) (sSeq (sSet 4 (eCall F__law_mirror (aCons (eVar 5) (aCons (eVar 4) aNil)))) sNil)) (sSeq (sPutT 2 (eCB gTuple (aCons (eVar 4) aNil)) (eCB gTuple (aCons (eVar 3) aNil))) sNil)))) (sSeq (sSet 6 (eInt 1)) (sSeq (sSet 7 eDctT0) (sLock 2 (sSeq (sFor (iKeysD (eVar 2)) (tgN 3) (sSeq (sIf (bVal (eTIn true (eVar 3) (eVar 7))) (sSeq (sSet 8 (eInt 0)) (sSeq (sSet 4 (eVar 3)) (sSeq (sFor (iRg1 (aCons (eInt 240) aNil)) (tgN 9) (sSeq (sIf (bVal (eTIn true (eVar 4) (eVar 7))) (sSeq (sPutT 7 (eBl true) (eVar 4)) (sSeq (sAug 8 (fun i j => i + j) (eInt 1)) (sSeq (sSet 4 (eTIx (eVar 2) (eVar 4))) sNil))) sNil) sNil)) (sSeq (sPar 10 11 (aCons (eVar 6) (aCons (eVar 8) aNil))) (sSeq (sFor (iRg1 (aCons (eInt 20) aNil)) (tgN 9) (sSeq (sIf (bCmp gGtA (eVar 11) (eInt 0)) (sSeq (sPar 10 11 (aCons (eVar 11) (aCons (eBin gMod (eCB gInt (aCons (eVar 10) aNil)) (eVar 11)) aNil))) sNil) sNil) sNil)) (sSeq (sSet 6 (eBin gDiv (eBin gMul (eVar 6) (eVar 8)) (eVar 10))) sNil)))))) sNil) sNil)) (sSeq (sRet (eVar 6)) sNil)))))))
def F__law_round : Fn := runB B__law_round 2 12
abbrev s__law_mirrored_right : Stmt := topS 32
theorem sc__law_mirrored_right : FnScope ["feed", "roots", "rows", "row", "other", "root", "handed", "told", "due", "here", "one", "x"] ["feed", "roots", "rows"] (defScope s__law_mirrored_right) := ⟨rfl, rfl, rfl, by decide +kernel, rfl, by decide +kernel, by decide +kernel⟩
def B__law_mirrored_right : SS := (sSeq (sSet 3 (eCall F__law_row (aCons (eVar 0) aNil))) (sSeq (sSet 4 (eCall F__law_row (aCons (eVar 0) aNil))) (sSeq (sSet 5 (eBin gIx (eVar 1) (eCall F__law_draw (aCons (eVar 0) (aCons (eInt 240) aNil))))) (sSeq (sSet 6 (eLst (aCons (eCB gList (aCons (eVar 5) aNil)) (aCons (eCB gList (aCons (eVar 3) aNil)) (aCons (eLc (iSeq (eVar 2)) (tgN 10) bYes (eCB gList (aCons (eVar 10) aNil)) [10]) aNil))))) (sSeq (sSet 7 (eCall F_mirrored (aCons (eBin gIx (eVar 6) (eInt 0)) (aCons (eBin gIx (eVar 6) (eInt 1)) aNil)))) (sSeq (sSet 8 (eCall F__law_mirror (aCons (eVar 5) (aCons (eVar 3) aNil)))) (sSeq (sIf (bOr (bNot (bTru (eCall F__law_wholes (aCons (eVar 7) (aCons (eInt 8) aNil))))) (bOr (bCmp gNe (eVar 7) (eVar 8)) (bCmp gNe (eVar 6) (eLst (aCons (eVar 5) (aCons (eVar 3) (aCons (eVar 2) aNil))))))) (sSeq (sRet (eBl false)) sNil) sNil) (sSeq (sIf (bOr (bCmp gNe (eCall F__law_product (aCons (eVar 8) (aCons (eVar 8) aNil))) (eCall F__law_product (aCons (eVar 3) (aCons (eVar 3) aNil)))) (bCmp gNe (eCall F__law_product (aCons (eVar 8) (aCons (eCall F__law_mirror (aCons (eVar 5) (aCons (eVar 4) aNil))) aNil))) (eCall F__law_product (aCons (eVar 3) (aCons (eVar 4) aNil))))) (sSeq (sRet (eBl false)) sNil) sNil) (sSeq (sIf (bAnd (bCmp gLtA (eCB gMax1 (aCons (eLc (iSeq (eVar 8)) (tgN 11) bYes (eCB gAbs (aCons (eVar 11) aNil)) [11]) aNil)) (eInt 100)) (bCmp gNe (eCall F_mirrored (aCons (eBin gIx (eVar 6) (eInt 0)) (aCons (eVar 7) aNil))) (eVar 3))) (sSeq (sRet (eBl false)) sNil) sNil) (sSeq (sSet 9 (eCB gList (aCons (eVar 3) aNil))) (sSeq (sFor (iSeq (eVar 2)) (tgN 10) (sSeq (sSet 9 (eCall F__law_mirror (aCons (eVar 10) (aCons (eVar 9) aNil)))) sNil)) (sSeq (sSet 7 (eCall F_mirrored_by (aCons (eBin gIx (eVar 6) (eInt 2)) (aCons (eBin gIx (eVar 6) (eInt 1)) aNil)))) (sSeq (sIf (bOr (bNot (bTru (eCall F__law_wholes (aCons (eVar 7) (aCons (eInt 8) aNil))))) (bOr (bCmp gNe (eVar 7) (eVar 9)) (bCmp gNe (eVar 6) (eLst (aCons (eVar 5) (aCons (eVar 3) (aCons (eVar 2) aNil))))))) (sSeq (sRet (eBl false)) sNil) sNil) (sSeq (sMut 7 gApp (eInt 0)) (sSeq (sRet (eBin gEq (eCall F_mirrored_by (aCons (eBin gIx (eVar 6) (eInt 2)) (aCons (eBin gIx (eVar 6) (eInt 1)) aNil))) (eVar 9))) sNil)))))))))))))))
def F__law_mirrored_right : Fn := runB B__law_mirrored_right 3 12
abbrev s__law_lead_right : Stmt := topS 33
theorem sc__law_lead_right : FnScope ["roots", "root", "other", "handed", "due", "told", "here", "own"] ["roots", "root", "other"] (defScope s__law_lead_right) := ⟨rfl, rfl, rfl, by decide +kernel, rfl, by decide +kernel, by decide +kernel⟩
noncomputable def B__law_lead_right : SS := (sSeq (sSet 3 (eLst (aCons (eCB gList (aCons (eVar 1) aNil)) (aCons (eCB gList (aCons (eVar 2) aNil)) aNil)))) (sSeq (sSet 4 (eCall F__law_lead (aCons (eVar 0) (aCons (eVar 1) (aCons (eVar 2) aNil))))) (sSeq (sSet 5 (eCall F_lead_root (aCons (eBin gIx (eVar 3) (eInt 0)) (aCons (eBin gIx (eVar 3) (eInt 1)) aNil)))) (sKeep (sSeq (sIf (bOr (bCmp gIs (eVar 4) eNon) (bOr (bNot (bTru (eCall F__law_lists_same (aCons (eVar 5) (aCons (eVar 4) aNil))))) (bCmp gNe (eVar 3) (eLst (aCons (eVar 1) (aCons (eVar 2) aNil)))))) (sSeq (sRet (eBl false)) sNil) sNil) (sSeq (sSet 6 (eVar 1)) (sSeq (sFor (iSeq (eVar 5)) (tgN 7) (sSeq (sSet 6 (eCall F__law_mirror (aCons (eVar 7) (aCons (eVar 6) aNil)))) sNil)) (sSeq (sIf (bOr (bCmp gNe (eVar 6) (eVar 2)) (bCmp gGtA (eCB gLen (aCons (eVar 4) aNil)) (eInt 2))) (sSeq (sRet (eBl false)) sNil) sNil) sNil)))) (sSeq (sMut 5 gApp (eLst aNil)) (sSeq (sRet (eBin gEq (eCall F_lead_root (aCons (eBin gIx (eVar 3) (eInt 0)) (aCons (eBin gIx (eVar 3) (eInt 1)) aNil))) (eVar 4))) sNil))))))
noncomputable def F__law_lead_right : Fn := runB B__law_lead_right 3 8
abbrev s__law_closed_right : Stmt := topS 34
theorem sc__law_closed_right : FnScope ["feed", "roots", "rows", "handed", "due", "told", "known", "row", "turn", "one", "other", "many", "x"] ["feed", "roots", "rows"] (defScope s__law_closed_right) := ⟨rfl, rfl, rfl, by decide +kernel, rfl, by decide +kernel, by decide +kernel⟩
noncomputable def B__law_closed_right : SS := (sSeq (sSet 3 (eLc (iSeq (eVar 2)) (tgN 7) bYes (eCB gList (aCons (eVar 7) aNil)) [7])) (sSeq (sSet 4 (eCall F__law_close (aCons (eVar 2) aNil))) (sSeq (sSet 5 (eCall F_closed_by_mirrors (aCons (eVar 3) aNil))) (sSeq (sIf (bOr (bNot (bTru (eCall F__law_lists_same (aCons (eVar 5) (aCons (eVar 4) aNil))))) (bCmp gNe (eVar 3) (eVar 2))) (sSeq (sRet (eBl false)) sNil) sNil) (sSeq (sSet 6 eDctT0) (sSeq (sFor (iSeq (eVar 4)) (tgN 7) (sSeq (sPutT 6 (eBl true) (eCB gTuple (aCons (eVar 7) aNil))) sNil)) (sSeq (sFor (iRg1 (aCons (eInt 20) aNil)) (tgN 8) (sSeq (sIf (bCmp gGtA (eCB gLen (aCons (eVar 4) aNil)) (eInt 0)) (sSeq (sSet 9 (eBin gIx (eVar 4) (eCall F__law_draw (aCons (eVar 0) (aCons (eCB gLen (aCons (eVar 4) aNil)) aNil))))) (sSeq (sSet 10 (eBin gIx (eVar 4) (eCall F__law_draw (aCons (eVar 0) (aCons (eCB gLen (aCons (eVar 4) aNil)) aNil))))) (sSeq (sIf (bOr (bVal (eTIn true (eCB gTuple (aCons (eCall F__law_mirror (aCons (eVar 9) (aCons (eVar 10) aNil))) aNil)) (eVar 6))) (bOr (bVal (eTIn true (eCB gTuple (aCons (eLc (iSeq (eVar 9)) (tgN 12) bYes (eBin gSub (eInt 0) (eVar 12)) [12]) aNil)) (eVar 6))) (bCmp (gIn true) (eVar 9) (eVar 1)))) (sSeq (sRet (eBl false)) sNil) sNil) sNil))) sNil) sNil)) (sSeq (sSet 11 (eCall F_round_of_mirrors (aCons (eVar 3) aNil))) (sSeq (sIf (bOr (bNot (bTru (eCall F__law_whole (aCons (eVar 11) aNil)))) (bOr (bCmp gNe (eVar 11) (eCall F__law_round (aCons (eVar 1) (aCons (eVar 2) aNil)))) (bCmp gNe (eVar 3) (eVar 2)))) (sSeq (sRet (eBl false)) sNil) sNil) (sSeq (sMut 5 gApp (eLst aNil)) (sSeq (sRet (eBin gEq (eCB gLen (aCons (eCall F_closed_by_mirrors (aCons (eVar 3) aNil)) aNil)) (eCB gLen (aCons (eVar 4) aNil)))) sNil)))))))))))
noncomputable def F__law_closed_right : Fn := runB B__law_closed_right 3 13
abbrev s_law : Stmt := topS 35
theorem sc_law : FnScope ["script", "feed", "roots", "rows", "turn", "root", "goal", "fits", "other", "base", "i", "own", "k"] ["script"] (defScope s_law) := ⟨rfl, rfl, rfl, by decide +kernel, rfl, by decide +kernel, by decide +kernel⟩
noncomputable def B_law : SS := (sSeq (sSet 2 (eCall0 F__law_roots)) (sSeq (sSet 3 (eCall F__law_some (aCons (eVar 1) (aCons (eVar 2) aNil)))) (sSeq (sFor (iRg1 (aCons (eInt 3) aNil)) (tgN 4) (sSeq (sIf (bNot (bTru (eCall F__law_mirrored_right (aCons (eVar 1) (aCons (eVar 2) (aCons (eVar 3) aNil)))))) (sSeq (sRet (eBl false)) sNil) sNil) sNil)) (sSeq (sIf (bNot (bTru (eCall F__law_closed_right (aCons (eVar 1) (aCons (eVar 2) (aCons (eVar 3) aNil)))))) (sSeq (sRet (eBl false)) sNil) sNil) (sSeq (sSet 5 (eBin gIx (eVar 2) (eCall F__law_draw (aCons (eVar 1) (aCons (eInt 240) aNil))))) (sSeq (sSet 6 (eBin gIx (eLst (aCons (eInt 2) (aCons (eInt 1) (aCons (eInt 0) (aCons (eUn gNeg (eInt 1)) (aCons (eUn gNeg (eInt 2)) aNil)))))) (eCall F__law_draw (aCons (eVar 1) (aCons (eInt 5) aNil))))) (sSeq (sSet 7 (eLc (iSeq (eVar 2)) (tgN 11) (bCmp gEq (eCall F__law_product (aCons (eVar 5) (aCons (eVar 11) aNil))) (eVar 6)) (eVar 11) [11])) (sSeq (sFor (iSeq (eLst (aCons (eBin gIx (eVar 7) (eCall F__law_draw (aCons (eVar 1) (aCons (eCB gLen (aCons (eVar 7) aNil)) aNil)))) (aCons (eBin gIx (eVar 2) (eCall F__law_draw (aCons (eVar 1) (aCons (eInt 240) aNil)))) aNil)))) (tgN 8) (sSeq (sIf (bNot (bTru (eCall F__law_lead_right (aCons (eVar 2) (aCons (eVar 5) (aCons (eVar 8) aNil)))))) (sSeq (sRet (eBl false)) sNil) sNil) sNil)) (sSeq (sSet 9 (eLst (aCons (eLst (aCons (eInt 1) (aCons (eUn gNeg (eInt 1)) (aCons (eUn gNeg (eInt 1)) (aCons (eUn gNeg (eInt 1)) (aCons (eUn gNeg (eInt 1)) (aCons (eUn gNeg (eInt 1)) (aCons (eUn gNeg (eInt 1)) (aCons (eInt 1) aNil))))))))) (aCons (eLst (aCons (eInt 2) (aCons (eInt 2) (aCons (eInt 0) (aCons (eInt 0) (aCons (eInt 0) (aCons (eInt 0) (aCons (eInt 0) (aCons (eInt 0) aNil))))))))) aNil)))) (sSeq (sFor (iRg1 (aCons (eInt 6) aNil)) (tgN 10) (sSeq (sMut 9 gApp (eLc (iRg1 (aCons (eInt 8) aNil)) (tgN 12) bYes (eBin gSub (eBin gMul (eInt 2) (eCB gInt (aCons (eBin gEq (eVar 12) (eBin gAdd (eVar 10) (eInt 1))) aNil))) (eBin gMul (eInt 2) (eCB gInt (aCons (eBin gEq (eVar 12) (eVar 10)) aNil)))) [12])) sNil)) (sSeq (sIf (bOr (bCmp gNe (eCall F_round_of_mirrors (aCons (eVar 9) aNil)) (eInt 30)) (bOr (bCmp gNe (eCall F_closed_by_mirrors (aCons (eLst aNil) aNil)) (eLst aNil)) (bOr (bCmp gNe (eCall F_round_of_mirrors (aCons (eLst aNil) aNil)) (eInt 1)) (bCmp gNe (eCall F_lead_root (aCons (eVar 5) (aCons (eVar 5) aNil))) (eLst aNil))))) (sSeq (sRet (eBl false)) sNil) sNil) (sSeq (sIf (bCmp gNe (eCall F_lead_root (aCons (eLst (aCons (eInt 2) (aCons (eInt 2) (aCons (eInt 0) (aCons (eInt 0) (aCons (eInt 0) (aCons (eInt 0) (aCons (eInt 0) (aCons (eInt 0) aNil))))))))) (aCons (eLst (aCons (eUn gNeg (eInt 2)) (aCons (eUn gNeg (eInt 2)) (aCons (eInt 0) (aCons (eInt 0) (aCons (eInt 0) (aCons (eInt 0) (aCons (eInt 0) (aCons (eInt 0) aNil))))))))) aNil))) (eLst (aCons (eLst (aCons (eUn gNeg (eInt 2)) (aCons (eUn gNeg (eInt 2)) (aCons (eInt 0) (aCons (eInt 0) (aCons (eInt 0) (aCons (eInt 0) (aCons (eInt 0) (aCons (eInt 0) aNil))))))))) aNil))) (sSeq (sRet (eBl false)) sNil) sNil) (sSeq (sIf (bOr (bCmp gNe (eCall F_closed_by_mirrors (aCons (eLst (aCons (eBin gIx (eVar 9) (eInt 1)) aNil)) aNil)) (eLst (aCons (eLst (aCons (eUn gNeg (eInt 2)) (aCons (eUn gNeg (eInt 2)) (aCons (eInt 0) (aCons (eInt 0) (aCons (eInt 0) (aCons (eInt 0) (aCons (eInt 0) (aCons (eInt 0) aNil))))))))) (aCons (eLst (aCons (eInt 2) (aCons (eInt 2) (aCons (eInt 0) (aCons (eInt 0) (aCons (eInt 0) (aCons (eInt 0) (aCons (eInt 0) (aCons (eInt 0) aNil))))))))) aNil)))) (bCmp gNe (eCall F_round_of_mirrors (aCons (eSl (eVar 9) (oSome (eInt 2)) (oSome (eInt 4))) aNil)) (eInt 3))) (sSeq (sRet (eBl false)) sNil) sNil) (sSeq (sRet (eAnd (eBin gEq (eCall F_mirrored (aCons (eBin gIx (eVar 9) (eInt 1)) (aCons (eLst (aCons (eInt 4) (aCons (eInt 0) (aCons (eInt 0) (aCons (eInt 0) (aCons (eInt 0) (aCons (eInt 0) (aCons (eInt 0) (aCons (eInt 0) aNil))))))))) aNil))) (eLst (aCons (eInt 0) (aCons (eUn gNeg (eInt 4)) (aCons (eInt 0) (aCons (eInt 0) (aCons (eInt 0) (aCons (eInt 0) (aCons (eInt 0) (aCons (eInt 0) aNil)))))))))) (eBin gEq (eCall F_mirrored_by (aCons (eLst aNil) (aCons (eBin gIx (eVar 9) (eInt 0)) aNil))) (eBin gIx (eVar 9) (eInt 0))))) sNil))))))))))))))
section
variable {P : Program} {w : World} {K : PySem.W.Frag} {mg : Str → Option Value} {base : Heap} {cls : Str → Option (Addr × List Str)}
theorem ok_row_product {f : Addr} {fd : FuncData} (F : Fun K "row_product" "row_product" s_row_product f fd) (m_sum : mg "sum" = none) (m_zip : mg "zip" = none) :
    FnOk P w K mg base (L2N.CX P w) 1 f fd ["one", "other"] (spF cls K [true, true] .o F_row_product) :=
  fn_sem F sc_row_product [true, true] rfl .o B_row_product fun cdv A outer s H E cf cZ cH s0 r0 hr => (
s_cons (own := [.p, .p, .s, .s]) (s_ret (x_div (EX.o2p (x_sum rfl rfl m_sum (x_cons (EX.o2p (x_lc [("a", 2), ("b", 3)] rfl sc_row_product.nd (by kernel_rfl) (i_zip rfl m_zip (x_cons (x_var 0) (x_cons (x_var 1) x_nil))) (fun _ _ _ _ _ => (g_tup rfl rfl (gs_cons (g_name 2 sc_row_product.nd) (gs_cons (g_name 3 sc_row_product.nd) gs_nil)))) (fun _ _ _ _ _ => t_yes) (fun _ _ _ _ _ => (EX.o2s (x_mul (x_var 2) (x_var 3)))))) x_nil))) (EX.o2p x_int)))
  (s_nil (own := [.p, .p, .s, .s])))
theorem ok_row_less {f : Addr} {fd : FuncData} (F : Fun K "row_less" "row_less" s_row_less f fd) (m_zip : mg "zip" = none) :
    FnOk P w K mg base (L2N.CX P w) 1 f fd ["one", "other"] (spF cls K [true, true] .o F_row_less) :=
  fn_sem F sc_row_less [true, true] rfl .o B_row_less fun cdv A outer s H E cf cZ cH s0 r0 hr => (
s_cons (own := [.p, .p, .s, .s]) (s_ret (x_lc [("a", 2), ("b", 3)] rfl sc_row_less.nd (by kernel_rfl) (i_zip rfl m_zip (x_cons (x_var 0) (x_cons (x_var 1) x_nil))) (fun _ _ _ _ _ => (g_tup rfl rfl (gs_cons (g_name 2 sc_row_less.nd) (gs_cons (g_name 3 sc_row_less.nd) gs_nil)))) (fun _ _ _ _ _ => t_yes) (fun _ _ _ _ _ => (EX.o2s (x_sub (x_var 2) (x_var 3))))))
  (s_nil (own := [.p, .p, .s, .s])))
theorem ok_row_times {f : Addr} {fd : FuncData} (F : Fun K "row_times" "row_times" s_row_times f fd) :
    FnOk P w K mg base (L2N.CX P w) 1 f fd ["a", "row"] (spF cls K [true, true] .o F_row_times) :=
  fn_sem F sc_row_times [true, true] rfl .o B_row_times fun cdv A outer s H E cf cZ cH s0 r0 hr => (
s_cons (own := [.p, .p, .s]) (s_ret (x_lc [("number", 2)] rfl sc_row_times.nd (by kernel_rfl) (i_seq rfl (x_var 1)) (fun _ _ _ _ _ => (g_name 2 sc_row_times.nd)) (fun _ _ _ _ _ => t_yes) (fun _ _ _ _ _ => (EX.o2s (x_mul (x_var 0) (x_var 2))))))
  (s_nil (own := [.p, .p, .s])))
theorem ok_even_roots {f : Addr} {fd : FuncData} (F : Fun K "even_roots" "even_roots" s_even_roots f fd) (m_range : mg "range" = none) (g_SIZE : ∃ t, mg "SIZE" = some (.int 8 t)) :
    FnOk P w K mg base (L2N.CX P w) 1 f fd [] (spF cls K [] .o F_even_roots) :=
  fn_sem F sc_even_roots [] rfl .o B_even_roots fun cdv A outer s H E cf cZ cH s0 r0 hr => (
s_cons (own := [.s, .s, .s, .s, .s, .s]) (o1 := [.o, .s, .s, .s, .s, .s]) (s_setO 0 sc_even_roots.nd (x_lst x_nil))
  (s_cons (own := [.o, .s, .s, .s, .s, .s]) (o1 := [.o, .s, .s, .s, .s, .s]) (s_for (own := [.o, .s, .s, .s, .s, .s]) (o1 := [.o, .s, .s, .s, .s, .s]) (passes_of rfl) rfl (i_range1 m_range (x_cons (EX.o2p (x_glob (v := .int 8) (hm := g_SIZE.choose_spec) (r := ⟨_, rfl⟩) (rd := fun _ _ _ => .int 8))) x_nil)) (g_name 1 sc_even_roots.nd)
 (s_cons (own := [.o, .s, .s, .s, .s, .s]) (o1 := [.o, .s, .s, .s, .s, .s]) (s_for (own := [.o, .s, .s, .s, .s, .s]) (o1 := [.o, .s, .s, .s, .s, .s]) (passes_of rfl) rfl (i_range1 m_range (x_cons (x_var 1) x_nil)) (g_name 2 sc_even_roots.nd)
 (s_cons (own := [.o, .s, .s, .s, .s, .s]) (o1 := [.o, .s, .s, .s, .s, .s]) (s_for (own := [.o, .s, .s, .s, .s, .s]) (o1 := [.o, .s, .s, .s, .s, .s]) (passes_of rfl) rfl (i_seq rfl (x_tup (x_cons (x_tup (x_cons (EX.o2s x_int) (x_cons (EX.o2s x_int) x_nil))) (x_cons (x_tup (x_cons (EX.o2s x_int) (x_cons (EX.o2s (x_neg (EX.o2p x_int))) x_nil))) (x_cons (x_tup (x_cons (EX.o2s (x_neg (EX.o2p x_int))) (x_cons (EX.o2s x_int) x_nil))) (x_cons (x_tup (x_cons (EX.o2s (x_neg (EX.o2p x_int))) (x_cons (EX.o2s (x_neg (EX.o2p x_int))) x_nil))) x_nil)))))) (g_tup rfl rfl (gs_cons (g_name 3 sc_even_roots.nd) (gs_cons (g_name 4 sc_even_roots.nd) gs_nil)))
 (s_cons (own := [.o, .s, .s, .s, .s, .s]) (o1 := [.o, .s, .s, .s, .s, .o]) (s_setO 5 sc_even_roots.nd (x_mul (EX.o2p (x_lst (x_cons (EX.o2s x_int) x_nil))) (EX.o2p (x_glob (v := .int 8) (hm := g_SIZE.choose_spec) (r := ⟨_, rfl⟩) (rd := fun _ _ _ => .int 8)))))
  (s_cons (own := [.o, .s, .s, .s, .s, .o]) (o1 := [.o, .s, .s, .s, .s, .o]) (s_put 5 (x_varS 3) (x_var 2))
  (s_cons (own := [.o, .s, .s, .s, .s, .o]) (o1 := [.o, .s, .s, .s, .s, .o]) (s_put 5 (x_varS 4) (x_var 1))
  (s_frz [5] (by decide) (s_cons (own := [.o, .s, .s, .s, .s, .s]) (o1 := [.o, .s, .s, .s, .s, .s]) (s_append 0 (x_varS 5))
  (s_nil)))))))
  (s_nil)))
  (s_nil)))
  (s_cons (own := [.o, .s, .s, .s, .s, .s]) (s_retN 0)
  (s_nil (own := [.o, .s, .s, .s, .s, .s])))))
theorem ok_odd_roots {f : Addr} {fd : FuncData} (F : Fun K "odd_roots" "odd_roots" s_odd_roots f fd) (m_range : mg "range" = none) (m_sum : mg "sum" = none) (g_SIZE : ∃ t, mg "SIZE" = some (.int 8 t)) :
    FnOk P w K mg base (L2N.CX P w) 1 f fd [] (spF cls K [] .o F_odd_roots) :=
  fn_sem F sc_odd_roots [] rfl .o B_odd_roots fun cdv A outer s H E cf cZ cH s0 r0 hr => (
s_cons (own := [.s, .s, .s, .s]) (o1 := [.s, .s, .s, .s]) (s_setS 0 sc_odd_roots.nd (EX.o2s (x_lst (x_cons (EX.o2s (x_lst x_nil)) x_nil))))
  (s_cons (own := [.s, .s, .s, .s]) (o1 := [.s, .s, .s, .s]) (s_for (own := [.s, .s, .s, .s]) (o1 := [.s, .s, .s, .s]) (passes_of rfl) rfl (i_range1 m_range (x_cons (EX.o2p (x_glob (v := .int 8) (hm := g_SIZE.choose_spec) (r := ⟨_, rfl⟩) (rd := fun _ _ _ => .int 8))) x_nil)) (g_name 1 sc_odd_roots.nd)
 (s_end (on := [.o, .s, .s, .s]) [0] (by decide) (s_cons (own := [.s, .s, .s, .s]) (o1 := [.o, .s, .s, .s]) (s_setLc2 0 [("row", 2), ("sign", 3)] [3] rfl sc_odd_roots.nd (by kernel_rfl) (i_seq rfl (x_var 0)) (fun _ _ _ _ _ => (g_name 2 sc_odd_roots.nd)) (fun _ _ _ _ _ => t_yes) (fun _ _ _ _ _ => (i_seq rfl (x_tup (x_cons (EX.o2s (x_neg (EX.o2p x_int))) (x_cons (EX.o2s x_int) x_nil))))) (fun _ _ _ _ _ => (g_name 3 sc_odd_roots.nd)) (fun _ _ _ _ _ => t_yes) (fun _ _ _ _ _ => (EX.o2s (x_add rfl (x_var 2) (EX.o2p (x_lst (x_cons (x_varS 3) x_nil)))))))
  (s_nil))))
  (s_cons (own := [.s, .s, .s, .s]) (s_ret (x_lc [("row", 2)] rfl sc_odd_roots.nd (by kernel_rfl) (i_seq rfl (x_var 0)) (fun _ _ _ _ _ => (g_name 2 sc_odd_roots.nd)) (fun _ _ _ _ _ => (t_one (b_eq rfl (hu64 hr) (EX.o2p (x_mod (EX.o2p (x_sum rfl rfl m_sum (x_cons (x_var 2) x_nil))) (EX.o2p x_int))) (EX.o2p x_int)))) (fun _ _ _ _ _ => (x_varS 2))))
  (s_nil (own := [.s, .s, .s, .s])))))
theorem ok_all_roots {f : Addr} {fd : FuncData} (F : Fun K "all_roots" "all_roots" s_all_roots f fd) (c_even_roots : Cal P w K mg base cls "even_roots" 1 [] .o F_even_roots) (c_odd_roots : Cal P w K mg base cls "odd_roots" 1 [] .o F_odd_roots) (m_sorted : mg "sorted" = none) :
    FnOk P w K mg base (L2N.CX P w) 2 f fd [] (spF cls K [] .o F_all_roots) :=
  fn_sem F sc_all_roots [] rfl .o B_all_roots fun cdv A outer s H E cf cZ cH s0 r0 hr => (
s_cons (own := []) (s_ret (x_sorted rfl (hu66 hr) m_sorted (x_cons (EX.o2p (x_add rfl (EX.o2p (x_call0 rfl c_even_roots (hr.mono (by decide)))) (EX.o2p (x_call0 rfl c_odd_roots (hr.mono (by decide)))))) x_nil)))
  (s_nil (own := [])))
theorem ok_base_roots {f : Addr} {fd : FuncData} (F : Fun K "base_roots" "base_roots" s_base_roots f fd) (m_range : mg "range" = none) (g_SIZE : ∃ t, mg "SIZE" = some (.int 8 t)) :
    FnOk P w K mg base (L2N.CX P w) 1 f fd [] (spF cls K [] .o F_base_roots) :=
  fn_sem F sc_base_roots [] rfl .o B_base_roots fun cdv A outer s H E cf cZ cH s0 r0 hr => (
s_cons (own := [.s, .s, .s]) (o1 := [.o, .s, .s]) (s_setO 0 sc_base_roots.nd (x_lst (x_cons (EX.o2s (x_lst (x_cons (EX.o2s x_int) (x_cons (EX.o2s (x_neg (EX.o2p x_int))) (x_cons (EX.o2s (x_neg (EX.o2p x_int))) (x_cons (EX.o2s (x_neg (EX.o2p x_int))) (x_cons (EX.o2s (x_neg (EX.o2p x_int))) (x_cons (EX.o2s (x_neg (EX.o2p x_int))) (x_cons (EX.o2s (x_neg (EX.o2p x_int))) (x_cons (EX.o2s x_int) x_nil)))))))))) (x_cons (EX.o2s (x_lst (x_cons (EX.o2s x_int) (x_cons (EX.o2s x_int) (x_cons (EX.o2s x_int) (x_cons (EX.o2s x_int) (x_cons (EX.o2s x_int) (x_cons (EX.o2s x_int) (x_cons (EX.o2s x_int) (x_cons (EX.o2s x_int) x_nil)))))))))) x_nil))))
  (s_cons (own := [.o, .s, .s]) (o1 := [.o, .s, .s]) (s_for (own := [.o, .s, .s]) (o1 := [.o, .s, .s]) (passes_of rfl) rfl (i_range1 m_range (x_cons (EX.o2p (x_sub (EX.o2p (x_glob (v := .int 8) (hm := g_SIZE.choose_spec) (r := ⟨_, rfl⟩) (rd := fun _ _ _ => .int 8))) (EX.o2p x_int))) x_nil)) (g_name 1 sc_base_roots.nd)
 (s_cons (own := [.o, .s, .s]) (o1 := [.o, .s, .o]) (s_setO 2 sc_base_roots.nd (x_mul (EX.o2p (x_lst (x_cons (EX.o2s x_int) x_nil))) (EX.o2p (x_glob (v := .int 8) (hm := g_SIZE.choose_spec) (r := ⟨_, rfl⟩) (rd := fun _ _ _ => .int 8)))))
  (s_cons (own := [.o, .s, .o]) (o1 := [.o, .s, .o]) (s_put 2 (EX.o2s (x_neg (EX.o2p x_int))) (x_var 1))
  (s_cons (own := [.o, .s, .o]) (o1 := [.o, .s, .o]) (s_put 2 (EX.o2s x_int) (EX.o2p (x_add rfl (x_var 1) (EX.o2p x_int))))
  (s_frz [2] (by decide) (s_cons (own := [.o, .s, .s]) (o1 := [.o, .s, .s]) (s_append 0 (x_varS 2))
  (s_nil)))))))
  (s_cons (own := [.o, .s, .s]) (s_retN 0)
  (s_nil (own := [.o, .s, .s])))))
theorem ok_mirrored {f : Addr} {fd : FuncData} (F : Fun K "mirrored" "mirrored" s_mirrored f fd) (c_row_less : Cal P w K mg base cls "row_less" 1 [true, true] .o F_row_less) (c_row_times : Cal P w K mg base cls "row_times" 1 [true, true] .o F_row_times) (c_row_product : Cal P w K mg base cls "row_product" 1 [true, true] .o F_row_product) :
    FnOk P w K mg base (L2N.CX P w) 2 f fd ["root", "row"] (spF cls K [true, true] .o F_mirrored) :=
  fn_sem F sc_mirrored [true, true] rfl .o B_mirrored fun cdv A outer s H E cf cZ cH s0 r0 hr => (
s_cons (own := [.p, .p]) (s_ret (x_call rfl c_row_less (hr.mono (by decide)) (L2N.takes_of rfl rfl rfl rfl) (m_p (x_var 1) (m_p (EX.o2p (x_call rfl c_row_times (hr.mono (by decide)) (L2N.takes_of rfl rfl rfl rfl) (m_p (EX.o2p (x_call rfl c_row_product (hr.mono (by decide)) (L2N.takes_of rfl rfl rfl rfl) (m_p (x_var 0) (m_p (x_var 1) m_nil)))) (m_p (x_var 0) m_nil)))) m_nil))))
  (s_nil (own := [.p, .p])))
theorem ok_mirrored_by {f : Addr} {fd : FuncData} (F : Fun K "mirrored_by" "mirrored_by" s_mirrored_by f fd) (c_mirrored : Cal P w K mg base cls "mirrored" 2 [true, true] .o F_mirrored) (m_list : mg "list" = none) :
    FnOk P w K mg base (L2N.CX P w) 3 f fd ["roots", "row"] (spF cls K [true, true] .o F_mirrored_by) :=
  fn_sem F sc_mirrored_by [true, true] rfl .o B_mirrored_by fun cdv A outer s H E cf cZ cH s0 r0 hr => (
s_cons (own := [.p, .p, .s, .s]) (o1 := [.p, .p, .o, .s]) (s_setO 2 sc_mirrored_by.nd (x_list rfl m_list (x_cons (x_var 1) x_nil)))
  (s_cons (own := [.p, .p, .o, .s]) (o1 := [.p, .p, .o, .s]) (s_for (own := [.p, .p, .o, .s]) (o1 := [.p, .p, .o, .s]) (passes_of rfl) rfl (i_seqP 0 rfl) (g_name 3 sc_mirrored_by.nd)
 (s_cons (own := [.p, .p, .o, .s]) (o1 := [.p, .p, .o, .s]) (s_setO 2 sc_mirrored_by.nd (x_call rfl c_mirrored (hr.mono (by decide)) (L2N.takes_of rfl rfl rfl rfl) (m_p (x_var 3) (m_p (x_var 2) m_nil))))
  (s_nil)))
  (s_cons (own := [.p, .p, .o, .s]) (s_retN 2)
  (s_nil (own := [.p, .p, .o, .s])))))
theorem ok_one_mirror {f : Addr} {fd : FuncData} (F : Fun K "one_mirror" "one_mirror" s_one_mirror f fd) (c_mirrored : Cal P w K mg base cls "mirrored" 2 [true, true] .o F_mirrored) :
    FnOk P w K mg base (L2N.CX P w) 3 f fd ["roots", "root", "other"] (spF cls K [true, true, true] .s F_one_mirror) :=
  fn_sem F sc_one_mirror [true, true, true] rfl .s B_one_mirror fun cdv A outer s H E cf cZ cH s0 r0 hr => (
s_cons (own := [.p, .p, .p, .s]) (o1 := [.p, .p, .p, .s]) (s_for (own := [.p, .p, .p, .s]) (o1 := [.p, .p, .p, .s]) (passes_of rfl) rfl (i_seqP 0 rfl) (g_name 3 sc_one_mirror.nd)
 (s_cons (own := [.p, .p, .p, .s]) (o1 := [.p, .p, .p, .s]) (s_if (on := [.p, .p, .p, .s]) (b_eq rfl (hu64 hr) (EX.o2p (x_call rfl c_mirrored (hr.mono (by decide)) (L2N.takes_of rfl rfl rfl rfl) (m_p (x_var 3) (m_p (x_var 1) m_nil)))) (x_var 2))
 (s_cons (own := [.p, .p, .p, .s]) (s_ret (x_varS 3))
  (s_nil (own := [.p, .p, .p, .s])))
 (s_nil))
  (s_nil)))
  (s_cons (own := [.p, .p, .p, .s]) (s_ret (EX.o2s x_non))
  (s_nil (own := [.p, .p, .p, .s]))))
theorem ok_lead_root {f : Addr} {fd : FuncData} (F : Fun K "lead_root" "lead_root" s_lead_root f fd) (c_all_roots : Cal P w K mg base cls "all_roots" 2 [] .o F_all_roots) (c_row_product : Cal P w K mg base cls "row_product" 1 [true, true] .o F_row_product) (c_one_mirror : Cal P w K mg base cls "one_mirror" 3 [true, true, true] .s F_one_mirror) (c_mirrored : Cal P w K mg base cls "mirrored" 2 [true, true] .o F_mirrored) :
    FnOk P w K mg base (L2N.CX P w) 4 f fd ["root", "other"] (spF cls K [true, true] .o F_lead_root) :=
  fn_sem F sc_lead_root [true, true] rfl .o B_lead_root fun cdv A outer s H E cf cZ cH s0 r0 hr => (
s_cons (own := [.p, .p, .s, .s, .s]) (o1 := [.p, .p, .s, .s, .s]) (s_if (on := [.p, .p, .s, .s, .s]) (b_eq rfl (hu64 hr) (x_var 0) (x_var 1))
 (s_cons (own := [.p, .p, .s, .s, .s]) (s_ret (x_lst x_nil))
  (s_nil (own := [.p, .p, .s, .s, .s])))
 (s_nil))
  (s_cons (own := [.p, .p, .s, .s, .s]) (o1 := [.p, .p, .s, .s, .s]) (s_setS 2 sc_lead_root.nd (EX.o2s (x_call0 rfl c_all_roots (hr.mono (by decide)))))
  (s_cons (own := [.p, .p, .s, .s, .s]) (o1 := [.p, .p, .s, .s, .s]) (s_if (on := [.p, .p, .s, .s, .s]) (b_in rfl (hu65 hr) (EX.o2p (x_call rfl c_row_product (hr.mono (by decide)) (L2N.takes_of rfl rfl rfl rfl) (m_p (x_var 0) (m_p (x_var 1) m_nil)))) (x_tup (x_cons (EX.o2s x_int) (x_cons (EX.o2s (x_neg (EX.o2p x_int))) x_nil))))
 (s_cons (own := [.p, .p, .s, .s, .s]) (s_ret (x_lst (x_cons (x_call rfl c_one_mirror (hr.mono (by decide)) (L2N.takes_of rfl rfl rfl rfl) (m_p (x_var 2) (m_p (x_var 0) (m_p (x_var 1) m_nil)))) x_nil)))
  (s_nil (own := [.p, .p, .s, .s, .s])))
 (s_nil))
  (s_cons (own := [.p, .p, .s, .s, .s]) (o1 := [.p, .p, .s, .s, .s]) (s_for (own := [.p, .p, .s, .s, .s]) (o1 := [.p, .p, .s, .s, .s]) (passes_of rfl) rfl (i_seq rfl (x_varS 2)) (g_name 3 sc_lead_root.nd)
 (s_cons (own := [.p, .p, .s, .s, .s]) (o1 := [.p, .p, .s, .s, .s]) (s_setS 4 sc_lead_root.nd (EX.o2s (x_call rfl c_mirrored (hr.mono (by decide)) (L2N.takes_of rfl rfl rfl rfl) (m_p (x_var 3) (m_p (x_var 0) m_nil)))))
  (s_cons (own := [.p, .p, .s, .s, .s]) (o1 := [.p, .p, .s, .s, .s]) (s_if (on := [.p, .p, .s, .s, .s]) (b_in rfl (hu65 hr) (EX.o2p (x_call rfl c_row_product (hr.mono (by decide)) (L2N.takes_of rfl rfl rfl rfl) (m_p (x_var 4) (m_p (x_var 1) m_nil)))) (x_tup (x_cons (EX.o2s x_int) (x_cons (EX.o2s (x_neg (EX.o2p x_int))) x_nil))))
 (s_cons (own := [.p, .p, .s, .s, .s]) (s_ret (x_lst (x_cons (x_varS 3) (x_cons (x_call rfl c_one_mirror (hr.mono (by decide)) (L2N.takes_of rfl rfl rfl rfl) (m_p (x_var 2) (m_p (x_var 4) (m_p (x_var 1) m_nil)))) x_nil))))
  (s_nil (own := [.p, .p, .s, .s, .s])))
 (s_nil))
  (s_nil))))
  (s_cons (own := [.p, .p, .s, .s, .s]) (s_ret x_non)
  (s_nil (own := [.p, .p, .s, .s, .s])))))))
theorem ok_closed_by_mirrors {f : Addr} {fd : FuncData} (F : Fun K "closed_by_mirrors" "closed_by_mirrors" s_closed_by_mirrors f fd) (c_mirrored : Cal P w K mg base cls "mirrored" 2 [true, true] .o F_mirrored) (m_tuple : mg "tuple" = none) (m_list : mg "list" = none) (m_sorted : mg "sorted" = none) :
    FnOk P w K mg base (L2N.CX P w) 3 f fd ["rows"] (spF cls K [true] .o F_closed_by_mirrors) :=
  fn_sem F sc_closed_by_mirrors [true] rfl .o B_closed_by_mirrors fun cdv A outer s H E cf cZ cH s0 r0 hr => (
s_cons (own := [.p, .s, .s, .s, .s, .s, .s]) (o1 := [.p, .o, .s, .s, .s, .s, .s]) (s_setTdc 1 [("row", 4)] (hu64 hr) rfl sc_closed_by_mirrors.nd (by kernel_rfl) (i_seq rfl (x_var 0)) (fun _ _ _ _ _ => (g_name 4 sc_closed_by_mirrors.nd)) (fun _ _ _ _ _ => t_yes) (fun _ _ _ _ _ => (EX.o2p (x_tuple rfl m_tuple (x_cons (x_var 4) x_nil)))) (fun _ _ _ _ _ => (EX.o2s x_bl)))
  (s_peekK (own := [.p, .o, .s, .s, .s, .s, .s]) (own1 := [.p, .r, .o, .r, .r, .r, .r]) 1 1 rfl rfl rfl (fun Z ρ σ H => s_cons (own := [.p, .r, .r, .r, .r, .r, .r]) (o1 := [.p, .r, .o, .r, .r, .r, .r]) (s_setLc 2 [("row", 4)] rfl sc_closed_by_mirrors.nd (by kernel_rfl) (i_keys (x_var 1)) (fun _ _ _ _ _ => (g_name 4 sc_closed_by_mirrors.nd)) (fun _ _ _ _ _ => t_yes) (fun _ _ _ _ _ => (EX.o2s (x_list rfl m_list (x_cons (x_var 4) x_nil)))))
  (s_nil))
  (s_frz [2] (by decide) (s_cons (own := [.p, .o, .s, .s, .s, .s, .s]) (o1 := [.p, .o, .s, .s, .s, .s, .s]) (s_while (own := [.p, .o, .s, .s, .s, .s, .s]) 4096 (passes_of rfl) (b_tru rfl (x_var 2))
 (s_cons (own := [.p, .o, .s, .s, .s, .s, .s]) (o1 := [.p, .o, .s, .o, .s, .s, .s]) (s_setO 3 sc_closed_by_mirrors.nd (x_lst x_nil))
  (s_cons (own := [.p, .o, .s, .o, .s, .s, .s]) (o1 := [.p, .o, .s, .o, .s, .s, .s]) (s_for (own := [.p, .o, .s, .o, .s, .s, .s]) (o1 := [.p, .o, .s, .o, .s, .s, .s]) (passes_of rfl) rfl (i_seq rfl (x_varS 2)) (g_name 4 sc_closed_by_mirrors.nd)
 (s_cons (own := [.p, .o, .s, .o, .s, .s, .s]) (o1 := [.p, .o, .s, .o, .s, .s, .s]) (s_for (own := [.p, .o, .s, .o, .s, .s, .s]) (o1 := [.p, .o, .s, .o, .s, .s, .s]) (passes_of rfl) rfl (i_seqP 0 rfl) (g_name 5 sc_closed_by_mirrors.nd)
 (s_cons (own := [.p, .o, .s, .o, .s, .s, .s]) (o1 := [.p, .o, .s, .o, .s, .s, .s]) (s_setS 6 sc_closed_by_mirrors.nd (EX.o2s (x_call rfl c_mirrored (hr.mono (by decide)) (L2N.takes_of rfl rfl rfl rfl) (m_p (x_var 5) (m_p (x_var 4) m_nil)))))
  (s_cons (own := [.p, .o, .s, .o, .s, .s, .s]) (o1 := [.p, .o, .s, .o, .s, .s, .s]) (s_if (on := [.p, .o, .s, .o, .s, .s, .s]) (b_tnotin (hu64 hr) (EX.o2p (x_tuple rfl m_tuple (x_cons (x_var 6) x_nil))) (x_var 1))
 (s_cons (own := [.p, .o, .s, .o, .s, .s, .s]) (o1 := [.p, .o, .s, .o, .s, .s, .s]) (s_putT 1 (hu64 hr) (EX.o2s x_bl) (EX.o2p (x_tuple rfl m_tuple (x_cons (x_var 6) x_nil))))
  (s_cons (own := [.p, .o, .s, .o, .s, .s, .s]) (o1 := [.p, .o, .s, .o, .s, .s, .s]) (s_append 3 (x_varS 6))
  (s_nil)))
 (s_nil))
  (s_nil))))
  (s_nil)))
  (s_frz [3] (by decide) (s_cons (own := [.p, .o, .s, .s, .s, .s, .s]) (o1 := [.p, .o, .s, .s, .s, .s, .s]) (s_setS 2 sc_closed_by_mirrors.nd (x_varS 3))
  (s_nil))))))
  (s_cons (own := [.p, .o, .s, .s, .s, .s, .s]) (s_ret (x_sorted rfl (hu66 hr) m_sorted (x_cons (EX.o2p (x_peek (own := [.p, .o, .s, .s, .s, .s, .s]) 1 (x_lc [("row", 4)] rfl sc_closed_by_mirrors.nd (by kernel_rfl) (i_keys (x_var 1)) (fun _ _ _ _ _ => (g_name 4 sc_closed_by_mirrors.nd)) (fun _ _ _ _ _ => t_yes) (fun _ _ _ _ _ => (EX.o2s (x_list rfl m_list (x_cons (x_var 4) x_nil))))))) x_nil)))
  (s_nil (own := [.p, .o, .s, .s, .s, .s, .s])))))))
theorem ok_round_of_mirrors {f : Addr} {fd : FuncData} (F : Fun K "round_of_mirrors" "round_of_mirrors" s_round_of_mirrors f fd) (c_base_roots : Cal P w K mg base cls "base_roots" 1 [] .o F_base_roots) (c_mirrored_by : Cal P w K mg base cls "mirrored_by" 3 [true, true] .o F_mirrored_by) :
    FnOk P w K mg base (L2N.CX P w) 4 f fd ["rows"] (spF cls K [true] .s F_round_of_mirrors) :=
  fn_sem F sc_round_of_mirrors [true] rfl .s B_round_of_mirrors fun cdv A outer s H E cf cZ cH s0 r0 hr => (
s_cons (own := [.p, .s, .s, .s, .s]) (o1 := [.p, .s, .s, .s, .s]) (s_setS 1 sc_round_of_mirrors.nd (EX.o2s (x_call0 rfl c_base_roots (hr.mono (by decide)))))
  (s_cons (own := [.p, .s, .s, .s, .s]) (o1 := [.p, .s, .o, .s, .s]) (s_setLc 2 [("row", 4)] rfl sc_round_of_mirrors.nd (by kernel_rfl) (i_seq rfl (x_var 1)) (fun _ _ _ _ _ => (g_name 4 sc_round_of_mirrors.nd)) (fun _ _ _ _ _ => t_yes) (fun _ _ _ _ _ => (EX.o2s (x_call rfl c_mirrored_by (hr.mono (by decide)) takes0N (m_p (x_var 0) (m_p (x_var 4) m_nil))))))
  (s_cons (own := [.p, .s, .o, .s, .s]) (o1 := [.p, .s, .o, .o, .s]) (s_setO 3 sc_round_of_mirrors.nd x_int)
  (s_frz [3] (by decide) (s_cons (own := [.p, .s, .o, .s, .s]) (o1 := [.p, .s, .o, .s, .s]) (s_while (own := [.p, .s, .o, .s, .s]) 11007531417600000001 (passes_of rfl) (b_ne rfl (hu64 hr) (x_var 2) (x_var 1))
 (s_cons (own := [.p, .s, .o, .s, .s]) (o1 := [.p, .s, .o, .s, .s]) (s_setLc 2 [("row", 4)] rfl sc_round_of_mirrors.nd (by kernel_rfl) (i_seq rfl (x_var 2)) (fun _ _ _ _ _ => (g_name 4 sc_round_of_mirrors.nd)) (fun _ _ _ _ _ => t_yes) (fun _ _ _ _ _ => (EX.o2s (x_call rfl c_mirrored_by (hr.mono (by decide)) takes0N (m_p (x_var 0) (m_p (x_var 4) m_nil))))))
  (s_cons (own := [.p, .s, .o, .s, .s]) (o1 := [.p, .s, .o, .s, .s]) (s_aug 3 ip_add sc_round_of_mirrors.nd (EX.o2p x_int))
  (s_nil))))
  (s_cons (own := [.p, .s, .o, .s, .s]) (s_ret (x_varS 3))
  (s_nil (own := [.p, .s, .o, .s, .s]))))))))
theorem ok__law_feed {f : Addr} {fd : FuncData} (F : Fun K "_law_feed" "_law_feed" s__law_feed f fd) (m_list : mg "list" = none) : FnOk P w K mg base (L2N.CX P w) 1 f fd ["script"] (spFeed K) := by
  refine okXN F sc__law_feed (fun vs H Q E h => ?_) (fun cdv A outer s H vs Q E hr h => ?_)
  · obtain ⟨a, ns, rfl, _⟩ := h
    rfl
  · exact ⟨_, pss_cons (ps_ret (pe_lst (pa_cons (pe_callTy call_list_of (by rfl) m_list (by decide +kernel) (pa_cons (pv 0) pa_nil)) (pa_cons pe_int (pa_cons pe_int (pa_cons pe_int pa_nil)))))) pss_nil, feed_read h⟩

theorem ok__law_draw {f : Addr} {fd : FuncData} (F : Fun K "_law_draw" "_law_draw" s__law_draw f fd) (m_len : mg "len" = none) (m_abs : mg "abs" = none) (m_int : mg "int" = none) :
    FnOk P w K mg base (L2N.CX P w) 1 f fd ["feed", "many"] (spF cls K [false, false] .s drawF) := by
  refine okXN F sc__law_draw (fun vs H Q E h => ?_) (fun cdv A outer s H vs Q E hr h => ?_)
  · obtain ⟨f, Z, ds, φ, _, rs, _⟩ := h
    exact rs.lens.1
  · refine ⟨tSeq (tDrawA K) (tDrawB K), pss_cons (ps_if (PW.pt (pw_and (pt_cmpR op_eq (pe_ix ix_list (pv 0) pe_int (fun _ _ => rfl)) pe_int (nomark _)) (pw_and1 (pt_cmpR op_lt (pe_ix ix_list (pv 0) pe_int (fun _ _ => rfl)) (pe_callB call_len_seq (by rfl) m_len PySem.boot_len (pa_cons (pe_ix ix_list (pv 0) pe_int (fun _ _ => rfl)) pa_nil)) (nomark _)))))
        (pss_cons (ps_set (i := 2) sc__law_draw.nd rfl (Or.inl rfl) (pe_callB call_abs (by rfl) m_abs (by decide +kernel) (pa_cons (pe_callTy call_int1 (by rfl) m_int (by decide +kernel) (pa_cons (pe_ix ix_list (pe_ix ix_list (pv 0) pe_int (fun _ _ => rfl)) (pe_ix ix_list (pv 0) pe_int (fun _ _ => rfl)) (fun _ _ => rfl)) pa_nil)) pa_nil)))
        (pss_cons (ps_augS (pv 0) pe_int get_lst pe_int ip_add set_list)
        (pss_one (ps_if (pt_cmpR op_ge (pv 2) (pe_op op_pow pe_int pe_int) (nomark _))
          (pss_one (ps_asg (pv 2) (pg_sub (pv 0) pe_int set_list)))
          (pss_one (ps_asg (pe_op op_mod (pe_callTy call_int1 (by rfl) m_int (by decide +kernel) (pa_cons (pe_op op_add (pe_op op_add (pe_op op_mul (pe_ix ix_list (pv 0) pe_int (fun _ _ => rfl)) pe_int) (pe_op op_mul (pv 2) pe_int)) (pe_ix ix_list (pv 0) pe_int (fun _ _ => rfl))) pa_nil)) pe_int) (pg_sub (pv 0) pe_int set_list)))))))
        pss_nil)
      (pss_cons (ps_if (pt_cmpR op_gt (pe_ix ix_list (pv 0) pe_int (fun _ _ => rfl)) pe_int (nomark _))
        (pss_cons (ps_set (i := 3) sc__law_draw.nd rfl (Or.inl rfl) (pe_op op_mod (pe_callTy call_int1 (by rfl) m_int (by decide +kernel) (pa_cons (pe_ix ix_list (pv 0) pe_int (fun _ _ => rfl)) pa_nil)) (pv 1)))
        (pss_cons (ps_asg (pe_op op_fdiv (pe_ix ix_list (pv 0) pe_int (fun _ _ => rfl)) (pv 1)) (pg_sub (pv 0) pe_int set_list))
        (pss_one (ps_ret (pv 3)))))
        pss_nil)
      (pss_cons (ps_asg (pe_op op_mod (pe_callTy call_int1 (by rfl) m_int (by decide +kernel) (pa_cons (pe_op op_add (pe_op op_mul (pe_ix ix_list (pv 0) pe_int (fun _ _ => rfl)) pe_int) pe_int) pa_nil)) pe_int) (pg_sub (pv 0) pe_int set_list))
      (pss_cons (ps_set (i := 4) sc__law_draw.nd rfl (Or.inl rfl) (pe_op op_mod (pe_callTy call_int1 (by rfl) m_int (by decide +kernel) (pa_cons (pe_op op_add (pe_op op_mul (pe_ix ix_list (pv 0) pe_int (fun _ _ => rfl)) (pe_ix ix_list (pv 0) pe_int (fun _ _ => rfl))) (pe_ix ix_list (pv 0) pe_int (fun _ _ => rfl))) pa_nil)) pe_int))
      (pss_one (ps_ret (pe_op op_mod (pe_op op_fdiv (pv 4) pe_int) (pv 1))))))), draw_read rfl h⟩

theorem ok__law_whole {f : Addr} {fd : FuncData} (F : Fun K "_law_whole" "_law_whole" s__law_whole f fd) (m_isinstance : mg "isinstance" = none) (m_int : mg "int" = none) (m_bool : mg "bool" = none) :
    FnOk P w K mg base (L2N.CX P w) 1 f fd ["x"] (spF cls K [true] .o F__law_whole) :=
  fn_sem F sc__law_whole [true] rfl .o B__law_whole fun cdv A outer s H E cf cZ cH s0 r0 hr => (
s_cons (own := [.p]) (s_ret (x_and (x_isi isi_int rfl (x_var 0) m_isinstance m_int (by decide +kernel)) (x_one (x_not (x_isi isi_bool rfl (x_var 0) m_isinstance m_bool (by decide +kernel))))))
  (s_nil (own := [.p])))
theorem ok__law_wholes {f : Addr} {fd : FuncData} (F : Fun K "_law_wholes" "_law_wholes" s__law_wholes f fd) (c__law_whole : Cal P w K mg base cls "_law_whole" 1 [true] .o F__law_whole) (m_isinstance : mg "isinstance" = none) (m_list : mg "list" = none) (m_len : mg "len" = none) (m_all : mg "all" = none) :
    FnOk P w K mg base (L2N.CX P w) 2 f fd ["x", "n"] (spF cls K [true, true] .o F__law_wholes) :=
  fn_sem F sc__law_wholes [true, true] rfl .o B__law_wholes fun cdv A outer s H E cf cZ cH s0 r0 hr => (
s_cons (own := [.p, .p, .s]) (o1 := [.p, .p, .s]) (s_if (on := [.p, .p, .s]) (b_pw (w_or (b_not (b_tru rfl (x_isi isi_list rfl (x_var 0) m_isinstance m_list (by decide +kernel)))) (w_or1 (b_ne rfl (hu64 hr) (EX.o2p (x_len rfl m_len (x_cons (x_var 0) x_nil))) (x_var 1)))))
 (s_cons (own := [.p, .p, .s]) (s_ret x_bl)
  (s_nil (own := [.p, .p, .s])))
 (s_nil))
  (s_cons (own := [.p, .p, .s]) (s_ret (x_all rfl rfl m_all (x_cons (EX.o2p (x_lc [("k", 2)] rfl sc__law_wholes.nd (by kernel_rfl) (i_seq rfl (x_var 0)) (fun _ _ _ _ _ => (g_name 2 sc__law_wholes.nd)) (fun _ _ _ _ _ => t_yes) (fun _ _ _ _ _ => (EX.o2s (x_call rfl c__law_whole (hr.mono (by decide)) takes0N (m_p (x_var 2) m_nil)))))) x_nil)))
  (s_nil (own := [.p, .p, .s]))))
theorem ok__law_roots {f : Addr} {fd : FuncData} (F : Fun K "_law_roots" "_law_roots" s__law_roots f fd) (m_range : mg "range" = none) (m_int : mg "int" = none) (m_sorted : mg "sorted" = none) :
    FnOk P w K mg base (L2N.CX P w) 1 f fd [] (spF cls K [] .o F__law_roots) :=
  fn_sem F sc__law_roots [] rfl .o B__law_roots fun cdv A outer s H E cf cZ cH s0 r0 hr => (
s_cons (own := [.s, .s, .s, .s, .s, .s, .s, .s]) (o1 := [.o, .s, .s, .s, .s, .s, .s, .s]) (s_setO 0 sc__law_roots.nd (x_lst x_nil))
  (s_cons (own := [.o, .s, .s, .s, .s, .s, .s, .s]) (o1 := [.o, .s, .s, .s, .s, .s, .s, .s]) (s_for (own := [.o, .s, .s, .s, .s, .s, .s, .s]) (o1 := [.o, .s, .s, .s, .s, .s, .s, .s]) (passes_of rfl) rfl (i_range1 m_range (x_cons (EX.o2p x_int) x_nil)) (g_name 1 sc__law_roots.nd)
 (s_cons (own := [.o, .s, .s, .s, .s, .s, .s, .s]) (o1 := [.o, .s, .s, .s, .s, .s, .s, .s]) (s_for (own := [.o, .s, .s, .s, .s, .s, .s, .s]) (o1 := [.o, .s, .s, .s, .s, .s, .s, .s]) (passes_of rfl) rfl (i_range2 m_range (x_cons (EX.o2p (x_add rfl (x_var 1) (EX.o2p x_int))) (x_cons (EX.o2p x_int) x_nil))) (g_name 2 sc__law_roots.nd)
 (s_cons (own := [.o, .s, .s, .s, .s, .s, .s, .s]) (o1 := [.o, .s, .s, .s, .s, .s, .s, .s]) (s_for (own := [.o, .s, .s, .s, .s, .s, .s, .s]) (o1 := [.o, .s, .s, .s, .s, .s, .s, .s]) (passes_of rfl) rfl (i_seq rfl (EX.o2s (x_lst (x_cons (EX.o2s (x_neg (EX.o2p x_int))) (x_cons (EX.o2s x_int) x_nil))))) (g_name 3 sc__law_roots.nd)
 (s_cons (own := [.o, .s, .s, .s, .s, .s, .s, .s]) (o1 := [.o, .s, .s, .s, .s, .s, .s, .s]) (s_for (own := [.o, .s, .s, .s, .s, .s, .s, .s]) (o1 := [.o, .s, .s, .s, .s, .s, .s, .s]) (passes_of rfl) rfl (i_seq rfl (EX.o2s (x_lst (x_cons (EX.o2s (x_neg (EX.o2p x_int))) (x_cons (EX.o2s x_int) x_nil))))) (g_name 4 sc__law_roots.nd)
 (s_cons (own := [.o, .s, .s, .s, .s, .s, .s, .s]) (o1 := [.o, .s, .s, .s, .s, .s, .s, .s]) (s_append 0 (EX.o2s (x_lc [("k", 7)] rfl sc__law_roots.nd (by kernel_rfl) (i_range1 m_range (x_cons (EX.o2p x_int) x_nil)) (fun _ _ _ _ _ => (g_name 7 sc__law_roots.nd)) (fun _ _ _ _ _ => t_yes) (fun _ _ _ _ _ => (EX.o2s (x_add rfl (EX.o2p (x_mul (x_var 3) (EX.o2p (x_int1 m_int (x_cons (EX.o2p (x_eq rfl (hu64 hr) (x_var 7) (x_var 1))) x_nil))))) (EX.o2p (x_mul (x_var 4) (EX.o2p (x_int1 m_int (x_cons (EX.o2p (x_eq rfl (hu64 hr) (x_var 7) (x_var 2))) x_nil)))))))))))
  (s_nil)))
  (s_nil)))
  (s_nil)))
  (s_nil)))
  (s_cons (own := [.o, .s, .s, .s, .s, .s, .s, .s]) (o1 := [.o, .s, .s, .s, .s, .s, .s, .s]) (s_for (own := [.o, .s, .s, .s, .s, .s, .s, .s]) (o1 := [.o, .s, .s, .s, .s, .s, .s, .s]) (passes_of rfl) rfl (i_range1 m_range (x_cons (EX.o2p x_int) x_nil)) (g_name 5 sc__law_roots.nd)
 (s_cons (own := [.o, .s, .s, .s, .s, .s, .s, .s]) (o1 := [.o, .s, .s, .s, .s, .s, .o, .s]) (s_setLc 6 [("k", 7)] rfl sc__law_roots.nd (by kernel_rfl) (i_range1 m_range (x_cons (EX.o2p x_int) x_nil)) (fun _ _ _ _ _ => (g_name 7 sc__law_roots.nd)) (fun _ _ _ _ _ => t_yes) (fun _ _ _ _ _ => (EX.o2s (x_sub (EX.o2p x_int) (EX.o2p (x_mul (EX.o2p x_int) (EX.o2p (x_band (EX.o2p (x_int1 m_int (x_cons (EX.o2p (x_shr (x_var 5) (x_var 7))) x_nil))) (EX.o2p x_int)))))))))
  (s_cons (own := [.o, .s, .s, .s, .s, .s, .o, .s]) (o1 := [.o, .s, .s, .s, .s, .s, .s, .s]) (s_if (on := [.o, .s, .s, .s, .s, .s, .s, .s]) (b_eq rfl (hu64 hr) (EX.o2p (x_mod (EX.o2p (x_int1 m_int (x_cons (EX.o2p (x_cnt rfl (x_var 6) (EX.o2p (x_neg (EX.o2p x_int))))) x_nil))) (EX.o2p x_int))) (EX.o2p x_int))
 (s_frz [6] (by decide) (s_cons (own := [.o, .s, .s, .s, .s, .s, .s, .s]) (o1 := [.o, .s, .s, .s, .s, .s, .s, .s]) (s_append 0 (x_varS 6))
  (s_nil)))
 (s_end (on := [.o, .s, .s, .s, .s, .s, .o, .s]) [6] (by decide) (s_nil)))
  (s_nil))))
  (s_cons (own := [.o, .s, .s, .s, .s, .s, .s, .s]) (s_ret (x_sorted rfl (hu66 hr) m_sorted (x_cons (x_var 0) x_nil)))
  (s_nil (own := [.o, .s, .s, .s, .s, .s, .s, .s]))))))
theorem ok__law_product {f : Addr} {fd : FuncData} (F : Fun K "_law_product" "_law_product" s__law_product f fd) (m_sum : mg "sum" = none) (m_range : mg "range" = none) :
    FnOk P w K mg base (L2N.CX P w) 1 f fd ["one", "other"] (spF cls K [true, true] .o F__law_product) :=
  fn_sem F sc__law_product [true, true] rfl .o B__law_product fun cdv A outer s H E cf cZ cH s0 r0 hr => (
s_cons (own := [.p, .p, .s]) (s_ret (x_div (EX.o2p (x_sum rfl rfl m_sum (x_cons (EX.o2p (x_lc [("k", 2)] rfl sc__law_product.nd (by kernel_rfl) (i_range1 m_range (x_cons (EX.o2p x_int) x_nil)) (fun _ _ _ _ _ => (g_name 2 sc__law_product.nd)) (fun _ _ _ _ _ => t_yes) (fun _ _ _ _ _ => (EX.o2s (x_mul (EX.s2p (x_ix rfl (x_var 0) (x_var 2))) (EX.s2p (x_ix rfl (x_var 1) (x_var 2)))))))) x_nil))) (EX.o2p x_int)))
  (s_nil (own := [.p, .p, .s])))
theorem ok__law_mirror {f : Addr} {fd : FuncData} (F : Fun K "_law_mirror" "_law_mirror" s__law_mirror f fd) (c__law_product : Cal P w K mg base cls "_law_product" 1 [true, true] .o F__law_product) (m_range : mg "range" = none) :
    FnOk P w K mg base (L2N.CX P w) 2 f fd ["root", "row"] (spF cls K [true, true] .o F__law_mirror) :=
  fn_sem F sc__law_mirror [true, true] rfl .o B__law_mirror fun cdv A outer s H E cf cZ cH s0 r0 hr => (
s_cons (own := [.p, .p, .s, .s]) (o1 := [.p, .p, .s, .s]) (s_setS 2 sc__law_mirror.nd (EX.o2s (x_call rfl c__law_product (hr.mono (by decide)) (L2N.takes_of rfl rfl rfl rfl) (m_p (x_var 0) (m_p (x_var 1) m_nil)))))
  (s_cons (own := [.p, .p, .s, .s]) (s_ret (x_lc [("k", 3)] rfl sc__law_mirror.nd (by kernel_rfl) (i_range1 m_range (x_cons (EX.o2p x_int) x_nil)) (fun _ _ _ _ _ => (g_name 3 sc__law_mirror.nd)) (fun _ _ _ _ _ => t_yes) (fun _ _ _ _ _ => (EX.o2s (x_sub (EX.s2p (x_ix rfl (x_var 1) (x_var 3))) (EX.o2p (x_mul (x_var 2) (EX.s2p (x_ix rfl (x_var 0) (x_var 3))))))))))
  (s_nil (own := [.p, .p, .s, .s]))))
theorem ok__law_close {f : Addr} {fd : FuncData} (F : Fun K "_law_close" "_law_close" s__law_close f fd) (c__law_mirror : Cal P w K mg base cls "_law_mirror" 2 [true, true] .o F__law_mirror) (m_tuple : mg "tuple" = none) (m_list : mg "list" = none) (m_range : mg "range" = none) (m_len : mg "len" = none) (m_sorted : mg "sorted" = none) :
    FnOk P w K mg base (L2N.CX P w) 3 f fd ["rows"] (spF cls K [true] .o F__law_close) :=
  fn_sem F sc__law_close [true] rfl .o B__law_close fun cdv A outer s H E cf cZ cH s0 r0 hr => (
s_cons (own := [.p, .s, .s, .s, .s, .s, .s, .s]) (o1 := [.p, .o, .s, .s, .s, .s, .s, .s]) (s_setO 1 sc__law_close.nd x_dctT0)
  (s_cons (own := [.p, .o, .s, .s, .s, .s, .s, .s]) (o1 := [.p, .o, .s, .s, .s, .s, .s, .s]) (s_for (own := [.p, .o, .s, .s, .s, .s, .s, .s]) (o1 := [.p, .o, .s, .s, .s, .s, .s, .s]) (passes_of rfl) rfl (i_seqP 0 rfl) (g_name 2 sc__law_close.nd)
 (s_cons (own := [.p, .o, .s, .s, .s, .s, .s, .s]) (o1 := [.p, .o, .s, .s, .s, .s, .s, .s]) (s_putT 1 (hu64 hr) (EX.o2s x_bl) (EX.o2p (x_tuple rfl m_tuple (x_cons (x_var 2) x_nil))))
  (s_nil)))
  (s_peekK (own := [.p, .o, .s, .s, .s, .s, .s, .s]) (own1 := [.p, .r, .r, .o, .r, .r, .r, .r]) 1 1 rfl rfl rfl (fun Z ρ σ H => s_cons (own := [.p, .r, .r, .r, .r, .r, .r, .r]) (o1 := [.p, .r, .r, .o, .r, .r, .r, .r]) (s_setLc 3 [("row", 2)] rfl sc__law_close.nd (by kernel_rfl) (i_keys (x_var 1)) (fun _ _ _ _ _ => (g_name 2 sc__law_close.nd)) (fun _ _ _ _ _ => t_yes) (fun _ _ _ _ _ => (EX.o2s (x_list rfl m_list (x_cons (x_var 2) x_nil)))))
  (s_nil))
  (s_frz [3] (by decide) (s_cons (own := [.p, .o, .s, .s, .s, .s, .s, .s]) (o1 := [.p, .o, .s, .s, .s, .s, .s, .s]) (s_for (own := [.p, .o, .s, .s, .s, .s, .s, .s]) (o1 := [.p, .o, .s, .s, .s, .s, .s, .s]) (passes_of rfl) rfl (i_range1 m_range (x_cons (EX.o2p x_int) x_nil)) (g_name 4 sc__law_close.nd)
 (s_cons (own := [.p, .o, .s, .s, .s, .s, .s, .s]) (o1 := [.p, .o, .s, .s, .s, .o, .s, .s]) (s_setO 5 sc__law_close.nd (x_lst x_nil))
  (s_cons (own := [.p, .o, .s, .s, .s, .o, .s, .s]) (o1 := [.p, .o, .s, .s, .s, .o, .s, .s]) (s_for (own := [.p, .o, .s, .s, .s, .o, .s, .s]) (o1 := [.p, .o, .s, .s, .s, .o, .s, .s]) (passes_of rfl) rfl (i_seq rfl (x_varS 3)) (g_name 2 sc__law_close.nd)
 (s_cons (own := [.p, .o, .s, .s, .s, .o, .s, .s]) (o1 := [.p, .o, .s, .s, .s, .o, .s, .s]) (s_for (own := [.p, .o, .s, .s, .s, .o, .s, .s]) (o1 := [.p, .o, .s, .s, .s, .o, .s, .s]) (passes_of rfl) rfl (i_seqP 0 rfl) (g_name 6 sc__law_close.nd)
 (s_cons (own := [.p, .o, .s, .s, .s, .o, .s, .s]) (o1 := [.p, .o, .s, .s, .s, .o, .s, .s]) (s_setS 7 sc__law_close.nd (EX.o2s (x_call rfl c__law_mirror (hr.mono (by decide)) (L2N.takes_of rfl rfl rfl rfl) (m_p (x_var 6) (m_p (x_var 2) m_nil)))))
  (s_cons (own := [.p, .o, .s, .s, .s, .o, .s, .s]) (o1 := [.p, .o, .s, .s, .s, .o, .s, .s]) (s_if (on := [.p, .o, .s, .s, .s, .o, .s, .s]) (b_tnotin (hu64 hr) (EX.o2p (x_tuple rfl m_tuple (x_cons (x_var 7) x_nil))) (x_var 1))
 (s_cons (own := [.p, .o, .s, .s, .s, .o, .s, .s]) (o1 := [.p, .o, .s, .s, .s, .o, .s, .s]) (s_putT 1 (hu64 hr) (EX.o2s x_bl) (EX.o2p (x_tuple rfl m_tuple (x_cons (x_var 7) x_nil))))
  (s_cons (own := [.p, .o, .s, .s, .s, .o, .s, .s]) (o1 := [.p, .o, .s, .s, .s, .o, .s, .s]) (s_append 5 (x_varS 7))
  (s_nil)))
 (s_nil))
  (s_nil))))
  (s_nil)))
  (s_frz [5] (by decide) (s_cons (own := [.p, .o, .s, .s, .s, .s, .s, .s]) (o1 := [.p, .o, .s, .s, .s, .s, .s, .s]) (s_setS 3 sc__law_close.nd (x_varS 5))
  (s_cons (own := [.p, .o, .s, .s, .s, .s, .s, .s]) (o1 := [.p, .o, .s, .s, .s, .s, .s, .s]) (s_if (on := [.p, .o, .s, .s, .s, .s, .s, .s]) (b_eq rfl (hu64 hr) (EX.o2p (x_len rfl m_len (x_cons (x_var 3) x_nil))) (EX.o2p x_int))
 (s_cons (own := [.p, .o, .s, .s, .s, .s, .s, .s]) (s_brk)
  (s_nil (own := [.p, .o, .s, .s, .s, .s, .s, .s])))
 (s_nil))
  (s_nil)))))))
  (s_cons (own := [.p, .o, .s, .s, .s, .s, .s, .s]) (s_ret (x_sorted rfl (hu66 hr) m_sorted (x_cons (EX.o2p (x_peek (own := [.p, .o, .s, .s, .s, .s, .s, .s]) 1 (x_lc [("row", 2)] rfl sc__law_close.nd (by kernel_rfl) (i_keys (x_var 1)) (fun _ _ _ _ _ => (g_name 2 sc__law_close.nd)) (fun _ _ _ _ _ => t_yes) (fun _ _ _ _ _ => (EX.o2s (x_list rfl m_list (x_cons (x_var 2) x_nil))))))) x_nil)))
  (s_nil (own := [.p, .o, .s, .s, .s, .s, .s, .s]))))))))
theorem ok__law_row {f : Addr} {fd : FuncData} (F : Fun K "_law_row" "_law_row" s__law_row f fd) (c__law_draw : Cal P w K mg base cls "_law_draw" 1 [false, false] .s F__law_draw) (m_range : mg "range" = none) (m_int : mg "int" = none) (m_sum : mg "sum" = none) :
    FnOk P w K mg base (L2N.CX P w) 2 f fd ["feed"] (spF cls K [false] .o F__law_row) :=
  fn_sem F sc__law_row [false] rfl .o B__law_row fun cdv A outer s H E cf cZ cH s0 r0 hr => (
s_cons (own := [.s, .s, .s, .s, .s, .s, .s]) (o1 := [.s, .s, .s, .s, .s, .s, .s]) (s_setS 1 sc__law_row.nd (x_ix rfl (EX.o2p (x_lst (x_cons (EX.o2s x_int) (x_cons (EX.o2s x_int) (x_cons (EX.o2s x_int) x_nil))))) (EX.s2p (x_call rfl c__law_draw (hr.mono (by decide)) (L2N.takes_of rfl rfl rfl rfl) (m_s (x_varS 0) (m_s (EX.o2s x_int) m_nil))))))
  (s_cons (own := [.s, .s, .s, .s, .s, .s, .s]) (o1 := [.s, .s, .s, .s, .s, .s, .s]) (s_setS 2 sc__law_row.nd (x_call rfl c__law_draw (hr.mono (by decide)) (L2N.takes_of rfl rfl rfl rfl) (m_s (x_varS 0) (m_s (EX.o2s x_int) m_nil))))
  (s_cons (own := [.s, .s, .s, .s, .s, .s, .s]) (o1 := [.s, .s, .s, .o, .s, .s, .s]) (s_setLc 3 [("k", 6)] rfl sc__law_row.nd (by kernel_rfl) (i_range1 m_range (x_cons (EX.o2p x_int) x_nil)) (fun _ _ _ _ _ => (g_name 6 sc__law_row.nd)) (fun _ _ _ _ _ => t_yes) (fun _ _ _ _ _ => (EX.o2s (x_add rfl (EX.o2p (x_mul (EX.o2p x_int) (EX.o2p (x_sub (EX.s2p (x_call rfl c__law_draw (hr.mono (by decide)) takes0N (m_s (x_varS 0) (m_s (EX.o2s (x_add rfl (EX.o2p (x_mul (EX.o2p x_int) (x_var 1))) (EX.o2p x_int))) m_nil)))) (x_var 1))))) (x_var 2)))))
  (s_cons (own := [.s, .s, .s, .o, .s, .s, .s]) (o1 := [.s, .s, .s, .o, .s, .s, .s]) (s_setS 4 sc__law_row.nd (x_varS 2))
  (s_cons (own := [.s, .s, .s, .o, .s, .s, .s]) (o1 := [.s, .s, .s, .o, .s, .s, .s]) (s_for (own := [.s, .s, .s, .o, .s, .s, .s]) (o1 := [.s, .s, .s, .o, .s, .s, .s]) (passes_of rfl) rfl (i_range1 m_range (x_cons (EX.o2p x_int) x_nil)) (g_name 5 sc__law_row.nd)
 (s_cons (own := [.s, .s, .s, .o, .s, .s, .s]) (o1 := [.s, .s, .s, .o, .s, .s, .s]) (s_if (on := [.s, .s, .s, .o, .s, .s, .s]) (b_gtA rfl (hu64 hr) (EX.o2p (x_mod (EX.o2p (x_int1 m_int (x_cons (EX.o2p (x_add rfl (EX.o2p (x_sum rfl rfl m_sum (x_cons (x_var 3) x_nil))) (x_var 4))) x_nil))) (EX.o2p x_int))) (EX.o2p x_int))
 (s_cons (own := [.s, .s, .s, .o, .s, .s, .s]) (o1 := [.s, .s, .s, .o, .s, .s, .s]) (s_aug 4 ip_add sc__law_row.nd (EX.o2p x_int))
  (s_nil))
 (s_nil))
  (s_nil)))
  (s_cons (own := [.s, .s, .s, .o, .s, .s, .s]) (o1 := [.s, .s, .s, .o, .s, .s, .s]) (s_if (on := [.s, .s, .s, .o, .s, .s, .s]) (b_eq rfl (hu64 hr) (EX.s2p (x_call rfl c__law_draw (hr.mono (by decide)) (L2N.takes_of rfl rfl rfl rfl) (m_s (x_varS 0) (m_s (EX.o2s x_int) m_nil)))) (EX.o2p x_int))
 (s_cons (own := [.s, .s, .s, .o, .s, .s, .s]) (o1 := [.s, .s, .s, .o, .s, .s, .s]) (s_setS 4 sc__law_row.nd (EX.o2s (x_sub (x_var 4) (EX.o2p x_int))))
  (s_nil))
 (s_nil))
  (s_cons (own := [.s, .s, .s, .o, .s, .s, .s]) (s_ret (x_add rfl (x_var 3) (EX.o2p (x_lst (x_cons (x_varS 4) x_nil)))))
  (s_nil (own := [.s, .s, .s, .o, .s, .s, .s])))))))))
theorem ok__law_lists_same {f : Addr} {fd : FuncData} (F : Fun K "_law_lists_same" "_law_lists_same" s__law_lists_same f fd) (c__law_wholes : Cal P w K mg base cls "_law_wholes" 2 [true, true] .o F__law_wholes) (m_isinstance : mg "isinstance" = none) (m_list : mg "list" = none) (m_len : mg "len" = none) (m_range : mg "range" = none) :
    FnOk P w K mg base (L2N.CX P w) 3 f fd ["told", "due"] (spF cls K [true, true] .o F__law_lists_same) :=
  fn_sem F sc__law_lists_same [true, true] rfl .o B__law_lists_same fun cdv A outer s H E cf cZ cH s0 r0 hr => (
s_cons (own := [.p, .p, .s]) (o1 := [.p, .p, .s]) (s_if (on := [.p, .p, .s]) (b_pw (w_or (b_not (b_tru rfl (x_isi isi_list rfl (x_var 0) m_isinstance m_list (by decide +kernel)))) (w_or1 (b_ne rfl (hu64 hr) (EX.o2p (x_len rfl m_len (x_cons (x_var 0) x_nil))) (EX.o2p (x_len rfl m_len (x_cons (x_var 1) x_nil)))))))
 (s_cons (own := [.p, .p, .s]) (s_ret x_bl)
  (s_nil (own := [.p, .p, .s])))
 (s_nil))
  (s_cons (own := [.p, .p, .s]) (o1 := [.p, .p, .s]) (s_for (own := [.p, .p, .s]) (o1 := [.p, .p, .s]) (passes_of rfl) rfl (i_range1 m_range (x_cons (EX.o2p (x_len rfl m_len (x_cons (x_var 1) x_nil))) x_nil)) (g_name 2 sc__law_lists_same.nd)
 (s_cons (own := [.p, .p, .s]) (o1 := [.p, .p, .s]) (s_if (on := [.p, .p, .s]) (b_pw (w_or (b_not (b_tru rfl (EX.o2p (x_call rfl c__law_wholes (hr.mono (by decide)) (L2N.takes_of rfl rfl rfl rfl) (m_p (EX.s2p (x_ix rfl (x_var 0) (x_var 2))) (m_p (EX.o2p (x_len rfl m_len (x_cons (EX.s2p (x_ix rfl (x_var 1) (x_var 2))) x_nil))) m_nil)))))) (w_or1 (b_ne rfl (hu64 hr) (EX.s2p (x_ix rfl (x_var 0) (x_var 2))) (EX.s2p (x_ix rfl (x_var 1) (x_var 2)))))))
 (s_cons (own := [.p, .p, .s]) (s_ret x_bl)
  (s_nil (own := [.p, .p, .s])))
 (s_nil))
  (s_nil)))
  (s_cons (own := [.p, .p, .s]) (s_ret x_bl)
  (s_nil (own := [.p, .p, .s])))))
theorem ok__law_some {f : Addr} {fd : FuncData} (F : Fun K "_law_some" "_law_some" s__law_some f fd) (c__law_draw : Cal P w K mg base cls "_law_draw" 1 [false, false] .s F__law_draw) (c__law_product : Cal P w K mg base cls "_law_product" 1 [true, true] .o F__law_product) (m_range : mg "range" = none) (m_int : mg "int" = none) (m_len : mg "len" = none) (m_max : mg "max" = none) (m_min : mg "min" = none) (m_list : mg "list" = none) :
    FnOk P w K mg base (L2N.CX P w) 2 f fd ["feed", "roots"] (spF cls K [false, true] .o F__law_some) :=
  fn_sem F sc__law_some [false, true] rfl .o B__law_some fun cdv A outer s H E cf cZ cH s0 r0 hr => (
s_cons (own := [.s, .p, .s, .s, .s, .s, .s, .s, .s, .s, .s, .s, .s, .s, .s]) (o1 := [.s, .p, .s, .s, .s, .s, .s, .s, .s, .s, .s, .s, .s, .s, .s]) (s_setS 2 sc__law_some.nd (x_call rfl c__law_draw (hr.mono (by decide)) (L2N.takes_of rfl rfl rfl rfl) (m_s (x_varS 0) (m_s (EX.o2s x_int) m_nil))))
  (s_cons (own := [.s, .p, .s, .s, .s, .s, .s, .s, .s, .s, .s, .s, .s, .s, .s]) (o1 := [.s, .p, .s, .s, .s, .s, .s, .s, .s, .s, .s, .s, .s, .s, .s]) (s_setS 3 sc__law_some.nd (x_call rfl c__law_draw (hr.mono (by decide)) (L2N.takes_of rfl rfl rfl rfl) (m_s (x_varS 0) (m_s (EX.o2s x_int) m_nil))))
  (s_cons (own := [.s, .p, .s, .s, .s, .s, .s, .s, .s, .s, .s, .s, .s, .s, .s]) (o1 := [.s, .p, .s, .s, .s, .s, .s, .s, .s, .s, .s, .s, .s, .s, .s]) (s_if (on := [.s, .p, .s, .s, .s, .s, .s, .s, .s, .s, .s, .s, .s, .s, .s]) (b_eq rfl (hu64 hr) (EX.s2p (x_call rfl c__law_draw (hr.mono (by decide)) (L2N.takes_of rfl rfl rfl rfl) (m_s (x_varS 0) (m_s (EX.o2s x_int) m_nil)))) (EX.o2p x_int))
 (s_cons (own := [.s, .p, .s, .s, .s, .s, .s, .s, .s, .s, .s, .s, .s, .s, .s]) (o1 := [.s, .p, .s, .s, .s, .s, .s, .s, .s, .s, .s, .s, .s, .s, .s]) (s_setS 3 sc__law_some.nd (x_call rfl c__law_draw (hr.mono (by decide)) (L2N.takes_of rfl rfl rfl rfl) (m_s (x_varS 0) (m_s (EX.o2s x_int) m_nil))))
  (s_nil))
 (s_nil))
  (s_cons (own := [.s, .p, .s, .s, .s, .s, .s, .s, .s, .s, .s, .s, .s, .s, .s]) (o1 := [.s, .p, .s, .s, .o, .s, .s, .s, .s, .s, .s, .s, .s, .s, .s]) (s_setO 4 sc__law_some.nd (x_lst (x_cons (EX.o2s (x_lst (x_cons (EX.o2s x_int) (x_cons (EX.o2s (x_neg (EX.o2p x_int))) (x_cons (EX.o2s (x_neg (EX.o2p x_int))) (x_cons (EX.o2s (x_neg (EX.o2p x_int))) (x_cons (EX.o2s (x_neg (EX.o2p x_int))) (x_cons (EX.o2s (x_neg (EX.o2p x_int))) (x_cons (EX.o2s (x_neg (EX.o2p x_int))) (x_cons (EX.o2s x_int) x_nil)))))))))) (x_cons (EX.o2s (x_lst (x_cons (EX.o2s x_int) (x_cons (EX.o2s x_int) (x_cons (EX.o2s x_int) (x_cons (EX.o2s x_int) (x_cons (EX.o2s x_int) (x_cons (EX.o2s x_int) (x_cons (EX.o2s x_int) (x_cons (EX.o2s x_int) x_nil)))))))))) x_nil))))
  (s_cons (own := [.s, .p, .s, .s, .o, .s, .s, .s, .s, .s, .s, .s, .s, .s, .s]) (o1 := [.s, .p, .s, .s, .o, .s, .s, .s, .s, .s, .s, .s, .s, .s, .s]) (s_for (own := [.s, .p, .s, .s, .o, .s, .s, .s, .s, .s, .s, .s, .s, .s, .s]) (o1 := [.s, .p, .s, .s, .o, .s, .s, .s, .s, .s, .s, .s, .s, .s, .s]) (passes_of rfl) rfl (i_range1 m_range (x_cons (EX.o2p x_int) x_nil)) (g_name 5 sc__law_some.nd)
 (s_cons (own := [.s, .p, .s, .s, .o, .s, .s, .s, .s, .s, .s, .s, .s, .s, .s]) (o1 := [.s, .p, .s, .s, .o, .s, .s, .s, .s, .s, .s, .s, .s, .s, .s]) (s_append 4 (EX.o2s (x_lc [("k", 7)] rfl sc__law_some.nd (by kernel_rfl) (i_range1 m_range (x_cons (EX.o2p x_int) x_nil)) (fun _ _ _ _ _ => (g_name 7 sc__law_some.nd)) (fun _ _ _ _ _ => t_yes) (fun _ _ _ _ _ => (EX.o2s (x_sub (EX.o2p (x_mul (EX.o2p x_int) (EX.o2p (x_int1 m_int (x_cons (EX.o2p (x_eq rfl (hu64 hr) (x_var 7) (EX.o2p (x_add rfl (x_var 5) (EX.o2p x_int))))) x_nil))))) (EX.o2p (x_mul (EX.o2p x_int) (EX.o2p (x_int1 m_int (x_cons (EX.o2p (x_eq rfl (hu64 hr) (x_var 7) (x_var 5))) x_nil)))))))))))
  (s_nil)))
  (s_cons (own := [.s, .p, .s, .s, .o, .s, .s, .s, .s, .s, .s, .s, .s, .s, .s]) (o1 := [.s, .p, .s, .s, .o, .s, .o, .s, .s, .s, .s, .s, .s, .s, .s]) (s_setO 6 sc__law_some.nd (x_lst x_nil))
  (s_cons (own := [.s, .p, .s, .s, .o, .s, .o, .s, .s, .s, .s, .s, .s, .s, .s]) (o1 := [.s, .p, .s, .s, .o, .s, .o, .s, .s, .s, .s, .s, .s, .s, .s]) (s_if (on := [.s, .p, .s, .s, .o, .s, .o, .s, .s, .s, .s, .s, .s, .s, .s]) (b_eq rfl (hu64 hr) (x_var 2) (EX.o2p x_int))
 (s_cons (own := [.s, .p, .s, .s, .o, .s, .o, .s, .s, .s, .s, .s, .s, .s, .s]) (o1 := [.s, .p, .s, .s, .o, .s, .o, .s, .s, .s, .s, .s, .s, .s, .s]) (s_setLc 6 [("k", 7)] rfl sc__law_some.nd (by kernel_rfl) (i_range1 m_range (x_cons (x_var 3) x_nil)) (fun _ _ _ _ _ => (g_name 7 sc__law_some.nd)) (fun _ _ _ _ _ => t_yes) (fun _ _ _ _ _ => (x_ix rfl (x_var 1) (EX.s2p (x_call rfl c__law_draw (hr.mono (by decide)) takes0N (m_s (x_varS 0) (m_s (EX.o2s x_int) m_nil)))))))
  (s_nil))
 (s_nil))
  (s_cons (own := [.s, .p, .s, .s, .o, .s, .o, .s, .s, .s, .s, .s, .s, .s, .s]) (o1 := [.s, .p, .s, .s, .o, .s, .o, .s, .s, .s, .s, .s, .s, .s, .s]) (s_if (on := [.s, .p, .s, .s, .o, .s, .o, .s, .s, .s, .s, .s, .s, .s, .s]) (b_eq rfl (hu64 hr) (x_var 2) (EX.o2p x_int))
 (s_cons (own := [.s, .p, .s, .s, .o, .s, .o, .s, .s, .s, .s, .s, .s, .s, .s]) (o1 := [.s, .p, .s, .s, .o, .s, .o, .s, .s, .s, .s, .s, .s, .s, .s]) (s_for (own := [.s, .p, .s, .s, .o, .s, .o, .s, .s, .s, .s, .s, .s, .s, .s]) (o1 := [.s, .p, .s, .s, .o, .s, .o, .s, .s, .s, .s, .s, .s, .s, .s]) (passes_of rfl) rfl (i_range1 m_range (x_cons (x_var 3) x_nil)) (g_name 7 sc__law_some.nd)
 (s_cons (own := [.s, .p, .s, .s, .o, .s, .o, .s, .s, .s, .s, .s, .s, .s, .s]) (o1 := [.s, .p, .s, .s, .o, .s, .o, .s, .s, .s, .s, .s, .s, .s, .s]) (s_popA 6 4 (EX.s2p (x_call rfl c__law_draw (hr.mono (by decide)) (L2N.takes_of rfl rfl rfl rfl) (m_s (x_varS 0) (m_s (EX.o2s (x_len rfl m_len (x_cons (x_var 4) x_nil))) m_nil)))))
  (s_nil)))
  (s_nil))
 (s_nil))
  (s_cons (own := [.s, .p, .s, .s, .o, .s, .o, .s, .s, .s, .s, .s, .s, .s, .s]) (o1 := [.s, .p, .s, .s, .o, .s, .o, .s, .s, .s, .s, .s, .s, .s, .s]) (s_if (on := [.s, .p, .s, .s, .o, .s, .o, .s, .s, .s, .s, .s, .s, .s, .s]) (b_eq rfl (hu64 hr) (x_var 2) (EX.o2p x_int))
 (s_cons (own := [.s, .p, .s, .s, .o, .s, .o, .s, .s, .s, .s, .s, .s, .s, .s]) (o1 := [.s, .p, .s, .s, .o, .s, .o, .s, .s, .s, .s, .s, .s, .s, .s]) (s_setS 8 sc__law_some.nd (x_call rfl c__law_draw (hr.mono (by decide)) (L2N.takes_of rfl rfl rfl rfl) (m_s (x_varS 0) (m_s (EX.o2s x_int) m_nil))))
  (s_cons (own := [.s, .p, .s, .s, .o, .s, .o, .s, .s, .s, .s, .s, .s, .s, .s]) (o1 := [.s, .p, .s, .s, .o, .s, .o, .s, .s, .s, .s, .s, .s, .s, .s]) (s_setO 6 sc__law_some.nd (x_sl rfl (x_var 4) (o_some (x_var 8)) (o_some (EX.o2p (x_add rfl (x_var 8) (x_var 3))))))
  (s_nil)))
 (s_nil))
  (s_cons (own := [.s, .p, .s, .s, .o, .s, .o, .s, .s, .s, .s, .s, .s, .s, .s]) (o1 := [.s, .p, .s, .s, .o, .s, .o, .s, .s, .s, .s, .s, .s, .s, .s]) (s_if (on := [.s, .p, .s, .s, .o, .s, .o, .s, .s, .s, .s, .s, .s, .s, .s]) (b_gtA rfl (hu64 hr) (x_var 2) (EX.o2p x_int))
 (s_cons (own := [.s, .p, .s, .s, .o, .s, .o, .s, .s, .s, .s, .s, .s, .s, .s]) (o1 := [.s, .p, .s, .s, .o, .s, .o, .s, .s, .s, .s, .s, .s, .s, .s]) (s_for (own := [.s, .p, .s, .s, .o, .s, .o, .s, .s, .s, .s, .s, .s, .s, .s]) (o1 := [.s, .p, .s, .s, .o, .s, .o, .s, .s, .s, .s, .s, .s, .s, .s]) (passes_of rfl) rfl (i_range1 m_range (x_cons (x_var 3) x_nil)) (g_name 7 sc__law_some.nd)
 (s_end (on := [.s, .p, .s, .s, .o, .s, .o, .s, .s, .s, .o, .s, .s, .s, .s]) [10] (by decide) (s_cons (own := [.s, .p, .s, .s, .o, .s, .o, .s, .s, .s, .s, .s, .s, .s, .s]) (o1 := [.s, .p, .s, .s, .o, .s, .o, .s, .s, .s, .s, .s, .s, .s, .s]) (s_setS 9 sc__law_some.nd (EX.o2s (x_neg (EX.o2p x_int))))
  (s_cons (own := [.s, .p, .s, .s, .o, .s, .o, .s, .s, .s, .s, .s, .s, .s, .s]) (o1 := [.s, .p, .s, .s, .o, .s, .o, .s, .s, .s, .s, .s, .s, .s, .s]) (s_if (on := [.s, .p, .s, .s, .o, .s, .o, .s, .s, .s, .s, .s, .s, .s, .s]) (b_pw (w_and (b_eq rfl (hu64 hr) (x_var 2) (EX.o2p x_int)) (w_and1 (b_eq rfl (hu64 hr) (EX.s2p (x_call rfl c__law_draw (hr.mono (by decide)) (L2N.takes_of rfl rfl rfl rfl) (m_s (x_varS 0) (m_s (EX.o2s x_int) m_nil)))) (EX.o2p x_int)))))
 (s_cons (own := [.s, .p, .s, .s, .o, .s, .o, .s, .s, .s, .s, .s, .s, .s, .s]) (o1 := [.s, .p, .s, .s, .o, .s, .o, .s, .s, .s, .s, .s, .s, .s, .s]) (s_setS 9 sc__law_some.nd (EX.o2s x_int))
  (s_nil))
 (s_nil))
  (s_cons (own := [.s, .p, .s, .s, .o, .s, .o, .s, .s, .s, .s, .s, .s, .s, .s]) (o1 := [.s, .p, .s, .s, .o, .s, .o, .s, .s, .s, .o, .s, .s, .s, .s]) (s_setO 10 sc__law_some.nd (x_lst x_nil))
  (s_cons (own := [.s, .p, .s, .s, .o, .s, .o, .s, .s, .s, .o, .s, .s, .s, .s]) (o1 := [.s, .p, .s, .s, .o, .s, .o, .s, .s, .s, .o, .s, .s, .s, .s]) (s_for (own := [.s, .p, .s, .s, .o, .s, .o, .s, .s, .s, .o, .s, .s, .s, .s]) (o1 := [.s, .p, .s, .s, .o, .s, .o, .s, .s, .s, .o, .s, .s, .s, .s]) (passes_of rfl) rfl (i_seqP 1 rfl) (g_name 11 sc__law_some.nd)
 (s_end (on := [.s, .p, .s, .s, .o, .s, .o, .s, .s, .s, .o, .s, .o, .s, .s]) [12] (by decide) (s_cons (own := [.s, .p, .s, .s, .o, .s, .o, .s, .s, .s, .o, .s, .s, .s, .s]) (o1 := [.s, .p, .s, .s, .o, .s, .o, .s, .s, .s, .o, .s, .o, .s, .s]) (s_setLc 12 [("one", 13)] rfl sc__law_some.nd (by kernel_rfl) (i_seq rfl (x_var 6)) (fun _ _ _ _ _ => (g_name 13 sc__law_some.nd)) (fun _ _ _ _ _ => t_yes) (fun _ _ _ _ _ => (EX.o2s (x_call rfl c__law_product (hr.mono (by decide)) takes0N (m_p (x_var 11) (m_p (x_var 13) m_nil))))))
  (s_cons (own := [.s, .p, .s, .s, .o, .s, .o, .s, .s, .s, .o, .s, .o, .s, .s]) (o1 := [.s, .p, .s, .s, .o, .s, .o, .s, .s, .s, .o, .s, .o, .s, .s]) (s_if (on := [.s, .p, .s, .s, .o, .s, .o, .s, .s, .s, .o, .s, .o, .s, .s]) (b_pw (w_and (b_leA rfl (hu64 hr) (EX.o2p (x_max1 rfl rfl m_max (x_cons (EX.o2p (x_add rfl (x_var 12) (EX.o2p (x_lst (x_cons (EX.o2s (x_neg (EX.o2p x_int))) x_nil))))) x_nil))) (EX.o2p x_int)) (w_and1 (b_geA rfl (hu64 hr) (EX.o2p (x_min1 rfl rfl m_min (x_cons (EX.o2p (x_add rfl (x_var 12) (EX.o2p (x_lst (x_cons (EX.o2s x_int) x_nil))))) x_nil))) (x_var 9)))))
 (s_cons (own := [.s, .p, .s, .s, .o, .s, .o, .s, .s, .s, .o, .s, .o, .s, .s]) (o1 := [.s, .p, .s, .s, .o, .s, .o, .s, .s, .s, .o, .s, .o, .s, .s]) (s_append 10 (x_varS 11))
  (s_nil))
 (s_nil))
  (s_nil)))))
  (s_cons (own := [.s, .p, .s, .s, .o, .s, .o, .s, .s, .s, .o, .s, .s, .s, .s]) (o1 := [.s, .p, .s, .s, .o, .s, .o, .s, .s, .s, .o, .s, .s, .s, .s]) (s_if (on := [.s, .p, .s, .s, .o, .s, .o, .s, .s, .s, .o, .s, .s, .s, .s]) (b_gtA rfl (hu64 hr) (EX.o2p (x_len rfl m_len (x_cons (x_var 10) x_nil))) (EX.o2p x_int))
 (s_cons (own := [.s, .p, .s, .s, .o, .s, .o, .s, .s, .s, .o, .s, .s, .s, .s]) (o1 := [.s, .p, .s, .s, .o, .s, .o, .s, .s, .s, .o, .s, .s, .s, .s]) (s_append 6 (x_ix rfl (x_var 10) (EX.s2p (x_call rfl c__law_draw (hr.mono (by decide)) (L2N.takes_of rfl rfl rfl rfl) (m_s (x_varS 0) (m_s (EX.o2s (x_len rfl m_len (x_cons (x_var 10) x_nil))) m_nil))))))
  (s_nil))
 (s_nil))
  (s_nil))))))))
  (s_nil))
 (s_nil))
  (s_cons (own := [.s, .p, .s, .s, .o, .s, .o, .s, .s, .s, .s, .s, .s, .s, .s]) (s_ret (x_lc [("row", 14)] rfl sc__law_some.nd (by kernel_rfl) (i_seq rfl (x_var 6)) (fun _ _ _ _ _ => (g_name 14 sc__law_some.nd)) (fun _ _ _ _ _ => t_yes) (fun _ _ _ _ _ => (EX.o2s (x_list rfl m_list (x_cons (x_var 14) x_nil))))))
  (s_nil (own := [.s, .p, .s, .s, .o, .s, .o, .s, .s, .s, .s, .s, .s, .s, .s])))))))))))))
theorem ok__law_one {f : Addr} {fd : FuncData} (F : Fun K "_law_one" "_law_one" s__law_one f fd) (c__law_mirror : Cal P w K mg base cls "_law_mirror" 2 [true, true] .o F__law_mirror) (m_range : mg "range" = none) (m_len : mg "len" = none) (m_int : mg "int" = none) (m_sorted : mg "sorted" = none) :
    FnOk P w K mg base (L2N.CX P w) 3 f fd ["roots", "root", "other"] (spF cls K [true, true, true] .s F__law_one) :=
  fn_sem F sc__law_one [true, true, true] rfl .s B__law_one fun cdv A outer s H E cf cZ cH s0 r0 hr => (
s_cons (own := [.p, .p, .p, .s, .s, .s, .s, .s, .s]) (o1 := [.p, .p, .p, .o, .s, .s, .s, .s, .s]) (s_setLc 3 [("k", 7)] rfl sc__law_one.nd (by kernel_rfl) (i_range1 m_range (x_cons (EX.o2p x_int) x_nil)) (fun _ _ _ _ _ => (g_name 7 sc__law_one.nd)) (fun _ _ _ _ _ => t_yes) (fun _ _ _ _ _ => (EX.o2s (x_sub (EX.s2p (x_ix rfl (x_var 1) (x_var 7))) (EX.s2p (x_ix rfl (x_var 2) (x_var 7)))))))
  (s_cons (own := [.p, .p, .p, .o, .s, .s, .s, .s, .s]) (o1 := [.p, .p, .p, .o, .o, .s, .s, .s, .s]) (s_setO 4 sc__law_one.nd (x_lst x_nil))
  (s_frz [3] (by decide) (s_cons (own := [.p, .p, .p, .s, .o, .s, .s, .s, .s]) (o1 := [.p, .p, .p, .s, .o, .s, .s, .s, .s]) (s_for (own := [.p, .p, .p, .s, .o, .s, .s, .s, .s]) (o1 := [.p, .p, .p, .s, .o, .s, .s, .s, .s]) (passes_of rfl) rfl (i_seq rfl (EX.o2s (x_lst (x_cons (x_varS 3) (x_cons (EX.o2s (x_lc [("x", 8)] rfl sc__law_one.nd (by kernel_rfl) (i_seq rfl (x_var 3)) (fun _ _ _ _ _ => (g_name 8 sc__law_one.nd)) (fun _ _ _ _ _ => t_yes) (fun _ _ _ _ _ => (EX.o2s (x_sub (EX.o2p x_int) (x_var 8)))))) x_nil))))) (g_name 5 sc__law_one.nd)
 (s_cons (own := [.p, .p, .p, .s, .o, .s, .s, .s, .s]) (o1 := [.p, .p, .p, .s, .o, .s, .s, .s, .s]) (s_if (on := [.p, .p, .p, .s, .o, .s, .s, .s, .s]) (b_in rfl (hu65 hr) (x_var 5) (x_var 0))
 (s_cons (own := [.p, .p, .p, .s, .o, .s, .s, .s, .s]) (o1 := [.p, .p, .p, .s, .o, .s, .s, .s, .s]) (s_append 4 (x_varS 5))
  (s_nil))
 (s_nil))
  (s_cons (own := [.p, .p, .p, .s, .o, .s, .s, .s, .s]) (o1 := [.p, .p, .p, .s, .o, .s, .s, .s, .s]) (s_if (on := [.p, .p, .p, .s, .o, .s, .s, .s, .s]) (b_eq rfl (hu64 hr) (EX.o2p (x_len rfl m_len (x_cons (EX.o2p (x_lc [("x", 8)] rfl sc__law_one.nd (by kernel_rfl) (i_seq rfl (x_var 5)) (fun _ _ _ _ _ => (g_name 8 sc__law_one.nd)) (fun _ _ _ _ _ => (t_one (b_eq rfl (hu64 hr) (EX.o2p (x_mod (EX.o2p (x_int1 m_int (x_cons (x_var 8) x_nil))) (EX.o2p x_int))) (EX.o2p x_int)))) (fun _ _ _ _ _ => (x_varS 8)))) x_nil))) (EX.o2p x_int))
 (s_cons (own := [.p, .p, .p, .s, .o, .s, .s, .s, .s]) (o1 := [.p, .p, .p, .s, .o, .s, .o, .s, .s]) (s_setLc 6 [("x", 8)] rfl sc__law_one.nd (by kernel_rfl) (i_seq rfl (x_var 5)) (fun _ _ _ _ _ => (g_name 8 sc__law_one.nd)) (fun _ _ _ _ _ => t_yes) (fun _ _ _ _ _ => (EX.o2s (x_div (x_var 8) (EX.o2p x_int)))))
  (s_cons (own := [.p, .p, .p, .s, .o, .s, .o, .s, .s]) (o1 := [.p, .p, .p, .s, .o, .s, .s, .s, .s]) (s_if (on := [.p, .p, .p, .s, .o, .s, .s, .s, .s]) (b_in rfl (hu65 hr) (x_var 6) (x_var 0))
 (s_frz [6] (by decide) (s_cons (own := [.p, .p, .p, .s, .o, .s, .s, .s, .s]) (o1 := [.p, .p, .p, .s, .o, .s, .s, .s, .s]) (s_append 4 (x_varS 6))
  (s_nil)))
 (s_end (on := [.p, .p, .p, .s, .o, .s, .o, .s, .s]) [6] (by decide) (s_nil)))
  (s_nil)))
 (s_nil))
  (s_nil))))
  (s_cons (own := [.p, .p, .p, .s, .o, .s, .s, .s, .s]) (o1 := [.p, .p, .p, .s, .o, .s, .s, .s, .s]) (s_setLc 4 [("own", 5)] rfl sc__law_one.nd (by kernel_rfl) (i_seq rfl (EX.o2p (x_sorted rfl (hu66 hr) m_sorted (x_cons (x_var 4) x_nil)))) (fun _ _ _ _ _ => (g_name 5 sc__law_one.nd)) (fun _ _ _ _ _ => (t_one (b_eq rfl (hu64 hr) (EX.o2p (x_call rfl c__law_mirror (hr.mono (by decide)) takes0N (m_p (x_var 5) (m_p (x_var 1) m_nil)))) (x_var 2)))) (fun _ _ _ _ _ => (x_varS 5)))
  (s_cons (own := [.p, .p, .p, .s, .o, .s, .s, .s, .s]) (o1 := [.p, .p, .p, .s, .o, .s, .s, .s, .s]) (s_if (on := [.p, .p, .p, .s, .o, .s, .s, .s, .s]) (b_eq rfl (hu64 hr) (EX.o2p (x_len rfl m_len (x_cons (x_var 4) x_nil))) (EX.o2p x_int))
 (s_cons (own := [.p, .p, .p, .s, .o, .s, .s, .s, .s]) (s_ret (EX.o2s x_non))
  (s_nil (own := [.p, .p, .p, .s, .o, .s, .s, .s, .s])))
 (s_nil))
  (s_cons (own := [.p, .p, .p, .s, .o, .s, .s, .s, .s]) (s_ret (x_ix rfl (x_var 4) (EX.o2p x_int)))
  (s_nil (own := [.p, .p, .p, .s, .o, .s, .s, .s, .s])))))))))
theorem ok__law_lead {f : Addr} {fd : FuncData} (F : Fun K "_law_lead" "_law_lead" s__law_lead f fd) (c__law_one : Cal P w K mg base cls "_law_one" 3 [true, true, true] .s F__law_one) (c__law_mirror : Cal P w K mg base cls "_law_mirror" 2 [true, true] .o F__law_mirror) (c__law_product : Cal P w K mg base cls "_law_product" 1 [true, true] .o F__law_product) :
    FnOk P w K mg base (L2N.CX P w) 4 f fd ["roots", "root", "other"] (spF cls K [true, true, true] .o F__law_lead) :=
  fn_sem F sc__law_lead [true, true, true] rfl .o B__law_lead fun cdv A outer s H E cf cZ cH s0 r0 hr => (
s_cons (own := [.p, .p, .p, .s, .s, .s, .s]) (o1 := [.p, .p, .p, .s, .s, .s, .s]) (s_if (on := [.p, .p, .p, .s, .s, .s, .s]) (b_eq rfl (hu64 hr) (x_var 1) (x_var 2))
 (s_cons (own := [.p, .p, .p, .s, .s, .s, .s]) (s_ret (x_lst x_nil))
  (s_nil (own := [.p, .p, .p, .s, .s, .s, .s])))
 (s_nil))
  (s_cons (own := [.p, .p, .p, .s, .s, .s, .s]) (o1 := [.p, .p, .p, .s, .s, .s, .s]) (s_setS 3 sc__law_lead.nd (x_call rfl c__law_one (hr.mono (by decide)) (L2N.takes_of rfl rfl rfl rfl) (m_p (x_var 0) (m_p (x_var 1) (m_p (x_var 2) m_nil)))))
  (s_cons (own := [.p, .p, .p, .s, .s, .s, .s]) (o1 := [.p, .p, .p, .s, .s, .s, .s]) (s_if (on := [.p, .p, .p, .s, .s, .s, .s]) (b_isnot (x_var 3) (EX.o2p x_non))
 (s_cons (own := [.p, .p, .p, .s, .s, .s, .s]) (s_ret (x_lst (x_cons (x_varS 3) x_nil)))
  (s_nil (own := [.p, .p, .p, .s, .s, .s, .s])))
 (s_nil))
  (s_cons (own := [.p, .p, .p, .s, .s, .s, .s]) (o1 := [.p, .p, .p, .s, .s, .s, .s]) (s_for (own := [.p, .p, .p, .s, .s, .s, .s]) (o1 := [.p, .p, .p, .s, .s, .s, .s]) (passes_of rfl) rfl (i_seqP 0 rfl) (g_name 4 sc__law_lead.nd)
 (s_cons (own := [.p, .p, .p, .s, .s, .s, .s]) (o1 := [.p, .p, .p, .s, .s, .s, .s]) (s_setS 5 sc__law_lead.nd (EX.o2s (x_call rfl c__law_mirror (hr.mono (by decide)) (L2N.takes_of rfl rfl rfl rfl) (m_p (x_var 4) (m_p (x_var 1) m_nil)))))
  (s_cons (own := [.p, .p, .p, .s, .s, .s, .s]) (o1 := [.p, .p, .p, .s, .s, .s, .s]) (s_if (on := [.p, .p, .p, .s, .s, .s, .s]) (b_in rfl (hu65 hr) (EX.o2p (x_call rfl c__law_product (hr.mono (by decide)) (L2N.takes_of rfl rfl rfl rfl) (m_p (x_var 5) (m_p (x_var 2) m_nil)))) (EX.o2p (x_lst (x_cons (EX.o2s x_int) (x_cons (EX.o2s (x_neg (EX.o2p x_int))) x_nil)))))
 (s_cons (own := [.p, .p, .p, .s, .s, .s, .s]) (o1 := [.p, .p, .p, .s, .s, .s, .s]) (s_setS 6 sc__law_lead.nd (x_call rfl c__law_one (hr.mono (by decide)) (L2N.takes_of rfl rfl rfl rfl) (m_p (x_var 0) (m_p (x_var 5) (m_p (x_var 2) m_nil)))))
  (s_cons (own := [.p, .p, .p, .s, .s, .s, .s]) (o1 := [.p, .p, .p, .s, .s, .s, .s]) (s_if (on := [.p, .p, .p, .s, .s, .s, .s]) (b_isnot (x_var 6) (EX.o2p x_non))
 (s_cons (own := [.p, .p, .p, .s, .s, .s, .s]) (s_ret (x_lst (x_cons (x_varS 4) (x_cons (x_varS 6) x_nil))))
  (s_nil (own := [.p, .p, .p, .s, .s, .s, .s])))
 (s_nil))
  (s_nil)))
 (s_nil))
  (s_nil))))
  (s_cons (own := [.p, .p, .p, .s, .s, .s, .s]) (s_ret x_non)
  (s_nil (own := [.p, .p, .p, .s, .s, .s, .s])))))))
theorem ok__law_round {f : Addr} {fd : FuncData} (F : Fun K "_law_round" "_law_round" s__law_round f fd) (c__law_mirror : Cal P w K mg base cls "_law_mirror" 2 [true, true] .o F__law_mirror) (m_tuple : mg "tuple" = none) (m_range : mg "range" = none) (m_int : mg "int" = none) :
    FnOk P w K mg base (L2N.CX P w) 3 f fd ["roots", "rows"] (spF cls K [true, true] .o F__law_round) :=
  fn_sem F sc__law_round [true, true] rfl .o B__law_round fun cdv A outer s H E cf cZ cH s0 r0 hr => (
s_cons (own := [.p, .p, .s, .s, .s, .s, .s, .s, .s, .s, .s, .s]) (o1 := [.p, .p, .o, .s, .s, .s, .s, .s, .s, .s, .s, .s]) (s_setO 2 sc__law_round.nd x_dctT0)
  (s_cons (own := [.p, .p, .o, .s, .s, .s, .s, .s, .s, .s, .s, .s]) (o1 := [.p, .p, .o, .s, .s, .s, .s, .s, .s, .s, .s, .s]) (s_for (own := [.p, .p, .o, .s, .s, .s, .s, .s, .s, .s, .s, .s]) (o1 := [.p, .p, .o, .s, .s, .s, .s, .s, .s, .s, .s, .s]) (passes_of rfl) rfl (i_seqP 0 rfl) (g_name 3 sc__law_round.nd)
 (s_cons (own := [.p, .p, .o, .s, .s, .s, .s, .s, .s, .s, .s, .s]) (o1 := [.p, .p, .o, .s, .s, .s, .s, .s, .s, .s, .s, .s]) (s_setS 4 sc__law_round.nd (x_varS 3))
  (s_cons (own := [.p, .p, .o, .s, .s, .s, .s, .s, .s, .s, .s, .s]) (o1 := [.p, .p, .o, .s, .s, .s, .s, .s, .s, .s, .s, .s]) (s_for (own := [.p, .p, .o, .s, .s, .s, .s, .s, .s, .s, .s, .s]) (o1 := [.p, .p, .o, .s, .s, .s, .s, .s, .s, .s, .s, .s]) (passes_of rfl) rfl (i_seqP 1 rfl) (g_name 5 sc__law_round.nd)
 (s_cons (own := [.p, .p, .o, .s, .s, .s, .s, .s, .s, .s, .s, .s]) (o1 := [.p, .p, .o, .s, .s, .s, .s, .s, .s, .s, .s, .s]) (s_setS 4 sc__law_round.nd (EX.o2s (x_call rfl c__law_mirror (hr.mono (by decide)) (L2N.takes_of rfl rfl rfl rfl) (m_p (x_var 5) (m_p (x_var 4) m_nil)))))
  (s_nil)))
  (s_cons (own := [.p, .p, .o, .s, .s, .s, .s, .s, .s, .s, .s, .s]) (o1 := [.p, .p, .o, .s, .s, .s, .s, .s, .s, .s, .s, .s]) (s_putT 2 (hu64 hr) (EX.o2s (x_tuple rfl m_tuple (x_cons (x_var 4) x_nil))) (EX.o2p (x_tuple rfl m_tuple (x_cons (x_var 3) x_nil))))
  (s_nil)))))
  (s_cons (own := [.p, .p, .o, .s, .s, .s, .s, .s, .s, .s, .s, .s]) (o1 := [.p, .p, .o, .s, .s, .s, .o, .s, .s, .s, .s, .s]) (s_setO 6 sc__law_round.nd x_int)
  (s_cons (own := [.p, .p, .o, .s, .s, .s, .o, .s, .s, .s, .s, .s]) (o1 := [.p, .p, .o, .s, .s, .s, .o, .o, .s, .s, .s, .s]) (s_setO 7 sc__law_round.nd x_dctT0)
  (s_lock (own := [.p, .p, .o, .s, .s, .s, .o, .o, .s, .s, .s, .s]) 2 (s_cons (own := [.p, .p, .s, .s, .s, .s, .o, .o, .s, .s, .s, .s]) (o1 := [.p, .p, .s, .s, .s, .s, .o, .o, .s, .s, .s, .s]) (s_for (own := [.p, .p, .s, .s, .s, .s, .o, .o, .s, .s, .s, .s]) (o1 := [.p, .p, .s, .s, .s, .s, .o, .o, .s, .s, .s, .s]) (passes_of rfl) rfl (i_keys (x_var 2)) (g_name 3 sc__law_round.nd)
 (s_cons (own := [.p, .p, .s, .s, .s, .s, .o, .o, .s, .s, .s, .s]) (o1 := [.p, .p, .s, .s, .s, .s, .o, .o, .s, .s, .s, .s]) (s_if (on := [.p, .p, .s, .s, .s, .s, .o, .o, .s, .s, .s, .s]) (b_tnotin (hu64 hr) (x_var 3) (x_var 7))
 (s_cons (own := [.p, .p, .s, .s, .s, .s, .o, .o, .s, .s, .s, .s]) (o1 := [.p, .p, .s, .s, .s, .s, .o, .o, .s, .s, .s, .s]) (s_setS 8 sc__law_round.nd (EX.o2s x_int))
  (s_cons (own := [.p, .p, .s, .s, .s, .s, .o, .o, .s, .s, .s, .s]) (o1 := [.p, .p, .s, .s, .s, .s, .o, .o, .s, .s, .s, .s]) (s_setS 4 sc__law_round.nd (x_varS 3))
  (s_cons (own := [.p, .p, .s, .s, .s, .s, .o, .o, .s, .s, .s, .s]) (o1 := [.p, .p, .s, .s, .s, .s, .o, .o, .s, .s, .s, .s]) (s_for (own := [.p, .p, .s, .s, .s, .s, .o, .o, .s, .s, .s, .s]) (o1 := [.p, .p, .s, .s, .s, .s, .o, .o, .s, .s, .s, .s]) (passes_of rfl) rfl (i_range1 m_range (x_cons (EX.o2p x_int) x_nil)) (g_name 9 sc__law_round.nd)
 (s_cons (own := [.p, .p, .s, .s, .s, .s, .o, .o, .s, .s, .s, .s]) (o1 := [.p, .p, .s, .s, .s, .s, .o, .o, .s, .s, .s, .s]) (s_if (on := [.p, .p, .s, .s, .s, .s, .o, .o, .s, .s, .s, .s]) (b_tnotin (hu64 hr) (x_var 4) (x_var 7))
 (s_cons (own := [.p, .p, .s, .s, .s, .s, .o, .o, .s, .s, .s, .s]) (o1 := [.p, .p, .s, .s, .s, .s, .o, .o, .s, .s, .s, .s]) (s_putT 7 (hu64 hr) (EX.o2s x_bl) (x_var 4))
  (s_cons (own := [.p, .p, .s, .s, .s, .s, .o, .o, .s, .s, .s, .s]) (o1 := [.p, .p, .s, .s, .s, .s, .o, .o, .s, .s, .s, .s]) (s_aug 8 ip_add sc__law_round.nd (EX.o2p x_int))
  (s_cons (own := [.p, .p, .s, .s, .s, .s, .o, .o, .s, .s, .s, .s]) (o1 := [.p, .p, .s, .s, .s, .s, .o, .o, .s, .s, .s, .s]) (s_setS 4 sc__law_round.nd (x_tix (hu64 hr) (x_var 2) (x_var 4)))
  (s_nil))))
 (s_nil))
  (s_nil)))
  (s_frz [6] (by decide) (s_cons (own := [.p, .p, .s, .s, .s, .s, .s, .o, .s, .s, .s, .s]) (o1 := [.p, .p, .s, .s, .s, .s, .s, .o, .s, .s, .s, .s]) (s_par 10 11 rfl sc__law_round.nd (x_cons (x_varS 6) (x_cons (x_varS 8) x_nil)))
  (s_cons (own := [.p, .p, .s, .s, .s, .s, .s, .o, .s, .s, .s, .s]) (o1 := [.p, .p, .s, .s, .s, .s, .s, .o, .s, .s, .s, .s]) (s_for (own := [.p, .p, .s, .s, .s, .s, .s, .o, .s, .s, .s, .s]) (o1 := [.p, .p, .s, .s, .s, .s, .s, .o, .s, .s, .s, .s]) (passes_of rfl) rfl (i_range1 m_range (x_cons (EX.o2p x_int) x_nil)) (g_name 9 sc__law_round.nd)
 (s_cons (own := [.p, .p, .s, .s, .s, .s, .s, .o, .s, .s, .s, .s]) (o1 := [.p, .p, .s, .s, .s, .s, .s, .o, .s, .s, .s, .s]) (s_if (on := [.p, .p, .s, .s, .s, .s, .s, .o, .s, .s, .s, .s]) (b_gtA rfl (hu64 hr) (x_var 11) (EX.o2p x_int))
 (s_cons (own := [.p, .p, .s, .s, .s, .s, .s, .o, .s, .s, .s, .s]) (o1 := [.p, .p, .s, .s, .s, .s, .s, .o, .s, .s, .s, .s]) (s_par 10 11 rfl sc__law_round.nd (x_cons (x_varS 11) (x_cons (EX.o2s (x_mod (EX.o2p (x_int1 m_int (x_cons (x_var 10) x_nil))) (x_var 11))) x_nil)))
  (s_nil))
 (s_nil))
  (s_nil)))
  (s_cons (own := [.p, .p, .s, .s, .s, .s, .s, .o, .s, .s, .s, .s]) (o1 := [.p, .p, .s, .s, .s, .s, .o, .o, .s, .s, .s, .s]) (s_setO 6 sc__law_round.nd (x_div (EX.o2p (x_mul (x_var 6) (x_var 8))) (x_var 10)))
  (s_nil))))))))
 (s_nil))
  (s_nil)))
  (s_cons (own := [.p, .p, .s, .s, .s, .s, .o, .o, .s, .s, .s, .s]) (s_retN 6)
  (s_nil (own := [.p, .p, .s, .s, .s, .s, .o, .o, .s, .s, .s, .s])))))))))
theorem ok__law_mirrored_right {f : Addr} {fd : FuncData} (F : Fun K "_law_mirrored_right" "_law_mirrored_right" s__law_mirrored_right f fd) (c__law_row : Cal P w K mg base cls "_law_row" 2 [false] .o F__law_row) (c__law_draw : Cal P w K mg base cls "_law_draw" 1 [false, false] .s F__law_draw) (c_mirrored : Cal P w K mg base cls "mirrored" 2 [true, true] .o F_mirrored) (c__law_mirror : Cal P w K mg base cls "_law_mirror" 2 [true, true] .o F__law_mirror) (c__law_wholes : Cal P w K mg base cls "_law_wholes" 2 [true, true] .o F__law_wholes) (c__law_product : Cal P w K mg base cls "_law_product" 1 [true, true] .o F__law_product) (c_mirrored_by : Cal P w K mg base cls "mirrored_by" 3 [true, true] .o F_mirrored_by) (m_list : mg "list" = none) (m_max : mg "max" = none) (m_abs : mg "abs" = none) :
    FnOk P w K mg base (L2N.CX P w) 4 f fd ["feed", "roots", "rows"] (spF cls K [false, true, false] .o F__law_mirrored_right) :=
  fn_sem F sc__law_mirrored_right [false, true, false] rfl .o B__law_mirrored_right fun cdv A outer s H E cf cZ cH s0 r0 hr => (
s_cons (own := [.s, .p, .s, .s, .s, .s, .s, .s, .s, .s, .s, .s]) (o1 := [.s, .p, .s, .s, .s, .s, .s, .s, .s, .s, .s, .s]) (s_setS 3 sc__law_mirrored_right.nd (EX.o2s (x_call rfl c__law_row (hr.mono (by decide)) (L2N.takes_of rfl rfl rfl rfl) (m_s (x_varS 0) m_nil))))
  (s_cons (own := [.s, .p, .s, .s, .s, .s, .s, .s, .s, .s, .s, .s]) (o1 := [.s, .p, .s, .s, .s, .s, .s, .s, .s, .s, .s, .s]) (s_setS 4 sc__law_mirrored_right.nd (EX.o2s (x_call rfl c__law_row (hr.mono (by decide)) (L2N.takes_of rfl rfl rfl rfl) (m_s (x_varS 0) m_nil))))
  (s_cons (own := [.s, .p, .s, .s, .s, .s, .s, .s, .s, .s, .s, .s]) (o1 := [.s, .p, .s, .s, .s, .s, .s, .s, .s, .s, .s, .s]) (s_setS 5 sc__law_mirrored_right.nd (x_ix rfl (x_var 1) (EX.s2p (x_call rfl c__law_draw (hr.mono (by decide)) (L2N.takes_of rfl rfl rfl rfl) (m_s (x_varS 0) (m_s (EX.o2s x_int) m_nil))))))
  (s_cons (own := [.s, .p, .s, .s, .s, .s, .s, .s, .s, .s, .s, .s]) (o1 := [.s, .p, .s, .s, .s, .s, .s, .s, .s, .s, .s, .s]) (s_setS 6 sc__law_mirrored_right.nd (EX.o2s (x_lst (x_cons (EX.o2s (x_list rfl m_list (x_cons (x_var 5) x_nil))) (x_cons (EX.o2s (x_list rfl m_list (x_cons (x_var 3) x_nil))) (x_cons (EX.o2s (x_lc [("one", 10)] rfl sc__law_mirrored_right.nd (by kernel_rfl) (i_seq rfl (x_var 2)) (fun _ _ _ _ _ => (g_name 10 sc__law_mirrored_right.nd)) (fun _ _ _ _ _ => t_yes) (fun _ _ _ _ _ => (EX.o2s (x_list rfl m_list (x_cons (x_var 10) x_nil)))))) x_nil))))))
  (s_cons (own := [.s, .p, .s, .s, .s, .s, .s, .s, .s, .s, .s, .s]) (o1 := [.s, .p, .s, .s, .s, .s, .s, .o, .s, .s, .s, .s]) (s_setO 7 sc__law_mirrored_right.nd (x_call rfl c_mirrored (hr.mono (by decide)) (L2N.takes_of rfl rfl rfl rfl) (m_p (EX.s2p (x_ix rfl (x_var 6) (EX.o2p x_int))) (m_p (EX.s2p (x_ix rfl (x_var 6) (EX.o2p x_int))) m_nil))))
  (s_cons (own := [.s, .p, .s, .s, .s, .s, .s, .o, .s, .s, .s, .s]) (o1 := [.s, .p, .s, .s, .s, .s, .s, .o, .s, .s, .s, .s]) (s_setS 8 sc__law_mirrored_right.nd (EX.o2s (x_call rfl c__law_mirror (hr.mono (by decide)) (L2N.takes_of rfl rfl rfl rfl) (m_p (x_var 5) (m_p (x_var 3) m_nil)))))
  (s_cons (own := [.s, .p, .s, .s, .s, .s, .s, .o, .s, .s, .s, .s]) (o1 := [.s, .p, .s, .s, .s, .s, .s, .o, .s, .s, .s, .s]) (s_if (on := [.s, .p, .s, .s, .s, .s, .s, .o, .s, .s, .s, .s]) (b_pw (w_or (b_not (b_tru rfl (EX.o2p (x_call rfl c__law_wholes (hr.mono (by decide)) (L2N.takes_of rfl rfl rfl rfl) (m_p (x_var 7) (m_p (EX.o2p x_int) m_nil)))))) (w_or (b_ne rfl (hu64 hr) (x_var 7) (x_var 8)) (w_or1 (b_ne rfl (hu64 hr) (x_var 6) (EX.o2p (x_lst (x_cons (x_varS 5) (x_cons (x_varS 3) (x_cons (x_varS 2) x_nil))))))))))
 (s_cons (own := [.s, .p, .s, .s, .s, .s, .s, .o, .s, .s, .s, .s]) (s_ret x_bl)
  (s_nil (own := [.s, .p, .s, .s, .s, .s, .s, .o, .s, .s, .s, .s])))
 (s_nil))
  (s_cons (own := [.s, .p, .s, .s, .s, .s, .s, .o, .s, .s, .s, .s]) (o1 := [.s, .p, .s, .s, .s, .s, .s, .o, .s, .s, .s, .s]) (s_if (on := [.s, .p, .s, .s, .s, .s, .s, .o, .s, .s, .s, .s]) (b_pw (w_or (b_ne rfl (hu64 hr) (EX.o2p (x_call rfl c__law_product (hr.mono (by decide)) (L2N.takes_of rfl rfl rfl rfl) (m_p (x_var 8) (m_p (x_var 8) m_nil)))) (EX.o2p (x_call rfl c__law_product (hr.mono (by decide)) (L2N.takes_of rfl rfl rfl rfl) (m_p (x_var 3) (m_p (x_var 3) m_nil))))) (w_or1 (b_ne rfl (hu64 hr) (EX.o2p (x_call rfl c__law_product (hr.mono (by decide)) (L2N.takes_of rfl rfl rfl rfl) (m_p (x_var 8) (m_p (EX.o2p (x_call rfl c__law_mirror (hr.mono (by decide)) (L2N.takes_of rfl rfl rfl rfl) (m_p (x_var 5) (m_p (x_var 4) m_nil)))) m_nil)))) (EX.o2p (x_call rfl c__law_product (hr.mono (by decide)) (L2N.takes_of rfl rfl rfl rfl) (m_p (x_var 3) (m_p (x_var 4) m_nil))))))))
 (s_cons (own := [.s, .p, .s, .s, .s, .s, .s, .o, .s, .s, .s, .s]) (s_ret x_bl)
  (s_nil (own := [.s, .p, .s, .s, .s, .s, .s, .o, .s, .s, .s, .s])))
 (s_nil))
  (s_cons (own := [.s, .p, .s, .s, .s, .s, .s, .o, .s, .s, .s, .s]) (o1 := [.s, .p, .s, .s, .s, .s, .s, .o, .s, .s, .s, .s]) (s_if (on := [.s, .p, .s, .s, .s, .s, .s, .o, .s, .s, .s, .s]) (b_pw (w_and (b_ltA rfl (hu64 hr) (EX.o2p (x_max1 rfl rfl m_max (x_cons (EX.o2p (x_lc [("x", 11)] rfl sc__law_mirrored_right.nd (by kernel_rfl) (i_seq rfl (x_var 8)) (fun _ _ _ _ _ => (g_name 11 sc__law_mirrored_right.nd)) (fun _ _ _ _ _ => t_yes) (fun _ _ _ _ _ => (EX.o2s (x_abs m_abs (x_cons (x_var 11) x_nil)))))) x_nil))) (EX.o2p x_int)) (w_and1 (b_ne rfl (hu64 hr) (EX.o2p (x_call rfl c_mirrored (hr.mono (by decide)) (L2N.takes_of rfl rfl rfl rfl) (m_p (EX.s2p (x_ix rfl (x_var 6) (EX.o2p x_int))) (m_p (x_var 7) m_nil)))) (x_var 3)))))
 (s_cons (own := [.s, .p, .s, .s, .s, .s, .s, .o, .s, .s, .s, .s]) (s_ret x_bl)
  (s_nil (own := [.s, .p, .s, .s, .s, .s, .s, .o, .s, .s, .s, .s])))
 (s_nil))
  (s_cons (own := [.s, .p, .s, .s, .s, .s, .s, .o, .s, .s, .s, .s]) (o1 := [.s, .p, .s, .s, .s, .s, .s, .o, .s, .s, .s, .s]) (s_setS 9 sc__law_mirrored_right.nd (EX.o2s (x_list rfl m_list (x_cons (x_var 3) x_nil))))
  (s_cons (own := [.s, .p, .s, .s, .s, .s, .s, .o, .s, .s, .s, .s]) (o1 := [.s, .p, .s, .s, .s, .s, .s, .o, .s, .s, .s, .s]) (s_for (own := [.s, .p, .s, .s, .s, .s, .s, .o, .s, .s, .s, .s]) (o1 := [.s, .p, .s, .s, .s, .s, .s, .o, .s, .s, .s, .s]) (passes_of rfl) rfl (i_seq rfl (x_varS 2)) (g_name 10 sc__law_mirrored_right.nd)
 (s_cons (own := [.s, .p, .s, .s, .s, .s, .s, .o, .s, .s, .s, .s]) (o1 := [.s, .p, .s, .s, .s, .s, .s, .o, .s, .s, .s, .s]) (s_setS 9 sc__law_mirrored_right.nd (EX.o2s (x_call rfl c__law_mirror (hr.mono (by decide)) (L2N.takes_of rfl rfl rfl rfl) (m_p (x_var 10) (m_p (x_var 9) m_nil)))))
  (s_nil)))
  (s_cons (own := [.s, .p, .s, .s, .s, .s, .s, .o, .s, .s, .s, .s]) (o1 := [.s, .p, .s, .s, .s, .s, .s, .o, .s, .s, .s, .s]) (s_setO 7 sc__law_mirrored_right.nd (x_call rfl c_mirrored_by (hr.mono (by decide)) (L2N.takes_of rfl rfl rfl rfl) (m_p (EX.s2p (x_ix rfl (x_var 6) (EX.o2p x_int))) (m_p (EX.s2p (x_ix rfl (x_var 6) (EX.o2p x_int))) m_nil))))
  (s_cons (own := [.s, .p, .s, .s, .s, .s, .s, .o, .s, .s, .s, .s]) (o1 := [.s, .p, .s, .s, .s, .s, .s, .o, .s, .s, .s, .s]) (s_if (on := [.s, .p, .s, .s, .s, .s, .s, .o, .s, .s, .s, .s]) (b_pw (w_or (b_not (b_tru rfl (EX.o2p (x_call rfl c__law_wholes (hr.mono (by decide)) (L2N.takes_of rfl rfl rfl rfl) (m_p (x_var 7) (m_p (EX.o2p x_int) m_nil)))))) (w_or (b_ne rfl (hu64 hr) (x_var 7) (x_var 9)) (w_or1 (b_ne rfl (hu64 hr) (x_var 6) (EX.o2p (x_lst (x_cons (x_varS 5) (x_cons (x_varS 3) (x_cons (x_varS 2) x_nil))))))))))
 (s_cons (own := [.s, .p, .s, .s, .s, .s, .s, .o, .s, .s, .s, .s]) (s_ret x_bl)
  (s_nil (own := [.s, .p, .s, .s, .s, .s, .s, .o, .s, .s, .s, .s])))
 (s_nil))
  (s_cons (own := [.s, .p, .s, .s, .s, .s, .s, .o, .s, .s, .s, .s]) (o1 := [.s, .p, .s, .s, .s, .s, .s, .o, .s, .s, .s, .s]) (s_append 7 (EX.o2s x_int))
  (s_cons (own := [.s, .p, .s, .s, .s, .s, .s, .o, .s, .s, .s, .s]) (s_ret (x_eq rfl (hu64 hr) (EX.o2p (x_call rfl c_mirrored_by (hr.mono (by decide)) (L2N.takes_of rfl rfl rfl rfl) (m_p (EX.s2p (x_ix rfl (x_var 6) (EX.o2p x_int))) (m_p (EX.s2p (x_ix rfl (x_var 6) (EX.o2p x_int))) m_nil)))) (x_var 9)))
  (s_nil (own := [.s, .p, .s, .s, .s, .s, .s, .o, .s, .s, .s, .s])))))))))))))))))
theorem ok__law_lead_right {f : Addr} {fd : FuncData} (F : Fun K "_law_lead_right" "_law_lead_right" s__law_lead_right f fd) (c__law_lead : Cal P w K mg base cls "_law_lead" 4 [true, true, true] .o F__law_lead) (c_lead_root : Cal P w K mg base cls "lead_root" 4 [true, true] .o F_lead_root) (c__law_lists_same : Cal P w K mg base cls "_law_lists_same" 3 [true, true] .o F__law_lists_same) (c__law_mirror : Cal P w K mg base cls "_law_mirror" 2 [true, true] .o F__law_mirror) (m_list : mg "list" = none) (m_len : mg "len" = none) :
    FnOk P w K mg base (L2N.CX P w) 5 f fd ["roots", "root", "other"] (spF cls K [true, false, false] .o F__law_lead_right) :=
  fn_sem F sc__law_lead_right [true, false, false] rfl .o B__law_lead_right fun cdv A outer s H E cf cZ cH s0 r0 hr => (
s_cons (own := [.p, .s, .s, .s, .s, .s, .s, .s]) (o1 := [.p, .s, .s, .s, .s, .s, .s, .s]) (s_setS 3 sc__law_lead_right.nd (EX.o2s (x_lst (x_cons (EX.o2s (x_list rfl m_list (x_cons (x_var 1) x_nil))) (x_cons (EX.o2s (x_list rfl m_list (x_cons (x_var 2) x_nil))) x_nil)))))
  (s_cons (own := [.p, .s, .s, .s, .s, .s, .s, .s]) (o1 := [.p, .s, .s, .s, .s, .s, .s, .s]) (s_setS 4 sc__law_lead_right.nd (EX.o2s (x_call rfl c__law_lead (hr.mono (by decide)) (L2N.takes_of rfl rfl rfl rfl) (m_p (x_var 0) (m_p (x_var 1) (m_p (x_var 2) m_nil))))))
  (s_cons (own := [.p, .s, .s, .s, .s, .s, .s, .s]) (o1 := [.p, .s, .s, .s, .s, .o, .s, .s]) (s_setO 5 sc__law_lead_right.nd (x_call rfl c_lead_root (hr.mono (by decide)) (L2N.takes_of rfl rfl rfl rfl) (m_p (EX.s2p (x_ix rfl (x_var 3) (EX.o2p x_int))) (m_p (EX.s2p (x_ix rfl (x_var 3) (EX.o2p x_int))) m_nil))))
  (s_keep (own := [.p, .s, .s, .s, .s, .o, .s, .s]) (own1 := [.p, .r, .r, .r, .r, .p, .s, .s]) (on := [.p, .s, .s, .s, .s, .o, .s, .s]) 4 (by decide) (fun Z ρ σ H => s_cons (own := [.p, .r, .r, .r, .r, .p, .r, .r]) (o1 := [.p, .r, .r, .r, .r, .p, .r, .r]) (s_if (on := [.p, .r, .r, .r, .r, .p, .r, .r]) (b_pw (w_or (b_is (x_var 4) (EX.o2p x_non)) (w_or (b_not (b_tru rfl (EX.o2p (x_call rfl c__law_lists_same (hr.mono (by decide)) takes0N (m_p (x_var 5) (m_p (x_var 4) m_nil)))))) (w_or1 (b_ne rfl (hu64 hr) (x_var 3) (EX.o2p (x_lst (x_cons (x_varS 1) (x_cons (x_varS 2) x_nil)))))))))
 (s_cons (own := [.p, .r, .r, .r, .r, .p, .r, .r]) (s_ret x_bl)
  (s_nil (own := [.p, .r, .r, .r, .r, .p, .r, .r])))
 (s_nil))
  (s_cons (own := [.p, .r, .r, .r, .r, .p, .r, .r]) (o1 := [.p, .r, .r, .r, .r, .p, .s, .r]) (s_setS 6 sc__law_lead_right.nd (x_varS 1))
  (s_frz [7] (by decide) (s_cons (own := [.p, .r, .r, .r, .r, .p, .s, .s]) (o1 := [.p, .r, .r, .r, .r, .p, .s, .s]) (s_for (own := [.p, .r, .r, .r, .r, .p, .s, .s]) (o1 := [.p, .r, .r, .r, .r, .p, .s, .s]) (passes_of rfl) rfl (i_seqP 5 rfl) (g_name 7 sc__law_lead_right.nd)
 (s_cons (own := [.p, .r, .r, .r, .r, .p, .s, .s]) (o1 := [.p, .r, .r, .r, .r, .p, .s, .s]) (s_setS 6 sc__law_lead_right.nd (EX.o2s (x_call rfl c__law_mirror (hr.mono (by decide)) takes0N (m_p (x_var 7) (m_p (x_var 6) m_nil)))))
  (s_nil)))
  (s_cons (own := [.p, .r, .r, .r, .r, .p, .s, .s]) (o1 := [.p, .r, .r, .r, .r, .p, .s, .s]) (s_if (on := [.p, .r, .r, .r, .r, .p, .s, .s]) (b_pw (w_or (b_ne rfl (hu64 hr) (x_var 6) (x_var 2)) (w_or1 (b_gtA rfl (hu64 hr) (EX.o2p (x_len rfl m_len (x_cons (x_var 4) x_nil))) (EX.o2p x_int)))))
 (s_cons (own := [.p, .r, .r, .r, .r, .p, .s, .s]) (s_ret x_bl)
  (s_nil (own := [.p, .r, .r, .r, .r, .p, .s, .s])))
 (s_nil))
  (s_nil))))))
  (s_cons (own := [.p, .s, .s, .s, .s, .o, .s, .s]) (o1 := [.p, .s, .s, .s, .s, .o, .s, .s]) (s_append 5 (EX.o2s (x_lst x_nil)))
  (s_cons (own := [.p, .s, .s, .s, .s, .o, .s, .s]) (s_ret (x_eq rfl (hu64 hr) (EX.o2p (x_call rfl c_lead_root (hr.mono (by decide)) (L2N.takes_of rfl rfl rfl rfl) (m_p (EX.s2p (x_ix rfl (x_var 3) (EX.o2p x_int))) (m_p (EX.s2p (x_ix rfl (x_var 3) (EX.o2p x_int))) m_nil)))) (x_var 4)))
  (s_nil (own := [.p, .s, .s, .s, .s, .o, .s, .s]))))))))
theorem ok__law_closed_right {f : Addr} {fd : FuncData} (F : Fun K "_law_closed_right" "_law_closed_right" s__law_closed_right f fd) (c__law_close : Cal P w K mg base cls "_law_close" 3 [true] .o F__law_close) (c_closed_by_mirrors : Cal P w K mg base cls "closed_by_mirrors" 3 [true] .o F_closed_by_mirrors) (c__law_lists_same : Cal P w K mg base cls "_law_lists_same" 3 [true, true] .o F__law_lists_same) (c__law_draw : Cal P w K mg base cls "_law_draw" 1 [false, false] .s F__law_draw) (c__law_mirror : Cal P w K mg base cls "_law_mirror" 2 [true, true] .o F__law_mirror) (c_round_of_mirrors : Cal P w K mg base cls "round_of_mirrors" 4 [true] .s F_round_of_mirrors) (c__law_whole : Cal P w K mg base cls "_law_whole" 1 [true] .o F__law_whole) (c__law_round : Cal P w K mg base cls "_law_round" 3 [true, true] .o F__law_round) (m_list : mg "list" = none) (m_tuple : mg "tuple" = none) (m_range : mg "range" = none) (m_len : mg "len" = none) :
    FnOk P w K mg base (L2N.CX P w) 5 f fd ["feed", "roots", "rows"] (spF cls K [false, true, true] .o F__law_closed_right) :=
  fn_sem F sc__law_closed_right [false, true, true] rfl .o B__law_closed_right fun cdv A outer s H E cf cZ cH s0 r0 hr => (
s_cons (own := [.s, .p, .p, .s, .s, .s, .s, .s, .s, .s, .s, .s, .s]) (o1 := [.s, .p, .p, .o, .s, .s, .s, .s, .s, .s, .s, .s, .s]) (s_setLc 3 [("row", 7)] rfl sc__law_closed_right.nd (by kernel_rfl) (i_seq rfl (x_var 2)) (fun _ _ _ _ _ => (g_name 7 sc__law_closed_right.nd)) (fun _ _ _ _ _ => t_yes) (fun _ _ _ _ _ => (EX.o2s (x_list rfl m_list (x_cons (x_var 7) x_nil)))))
  (s_cons (own := [.s, .p, .p, .o, .s, .s, .s, .s, .s, .s, .s, .s, .s]) (o1 := [.s, .p, .p, .o, .s, .s, .s, .s, .s, .s, .s, .s, .s]) (s_setS 4 sc__law_closed_right.nd (EX.o2s (x_call rfl c__law_close (hr.mono (by decide)) (L2N.takes_of rfl rfl rfl rfl) (m_p (x_var 2) m_nil))))
  (s_cons (own := [.s, .p, .p, .o, .s, .s, .s, .s, .s, .s, .s, .s, .s]) (o1 := [.s, .p, .p, .o, .s, .o, .s, .s, .s, .s, .s, .s, .s]) (s_setO 5 sc__law_closed_right.nd (x_call rfl c_closed_by_mirrors (hr.mono (by decide)) (L2N.takes_of rfl rfl rfl rfl) (m_p (x_var 3) m_nil)))
  (s_cons (own := [.s, .p, .p, .o, .s, .o, .s, .s, .s, .s, .s, .s, .s]) (o1 := [.s, .p, .p, .o, .s, .o, .s, .s, .s, .s, .s, .s, .s]) (s_if (on := [.s, .p, .p, .o, .s, .o, .s, .s, .s, .s, .s, .s, .s]) (b_pw (w_or (b_not (b_tru rfl (EX.o2p (x_call rfl c__law_lists_same (hr.mono (by decide)) (L2N.takes_of rfl rfl rfl rfl) (m_p (x_var 5) (m_p (x_var 4) m_nil)))))) (w_or1 (b_ne rfl (hu64 hr) (x_var 3) (x_var 2)))))
 (s_cons (own := [.s, .p, .p, .o, .s, .o, .s, .s, .s, .s, .s, .s, .s]) (s_ret x_bl)
  (s_nil (own := [.s, .p, .p, .o, .s, .o, .s, .s, .s, .s, .s, .s, .s])))
 (s_nil))
  (s_cons (own := [.s, .p, .p, .o, .s, .o, .s, .s, .s, .s, .s, .s, .s]) (o1 := [.s, .p, .p, .o, .s, .o, .o, .s, .s, .s, .s, .s, .s]) (s_setO 6 sc__law_closed_right.nd x_dctT0)
  (s_cons (own := [.s, .p, .p, .o, .s, .o, .o, .s, .s, .s, .s, .s, .s]) (o1 := [.s, .p, .p, .o, .s, .o, .o, .s, .s, .s, .s, .s, .s]) (s_for (own := [.s, .p, .p, .o, .s, .o, .o, .s, .s, .s, .s, .s, .s]) (o1 := [.s, .p, .p, .o, .s, .o, .o, .s, .s, .s, .s, .s, .s]) (passes_of rfl) rfl (i_seq rfl (x_varS 4)) (g_name 7 sc__law_closed_right.nd)
 (s_cons (own := [.s, .p, .p, .o, .s, .o, .o, .s, .s, .s, .s, .s, .s]) (o1 := [.s, .p, .p, .o, .s, .o, .o, .s, .s, .s, .s, .s, .s]) (s_putT 6 (hu64 hr) (EX.o2s x_bl) (EX.o2p (x_tuple rfl m_tuple (x_cons (x_var 7) x_nil))))
  (s_nil)))
  (s_cons (own := [.s, .p, .p, .o, .s, .o, .o, .s, .s, .s, .s, .s, .s]) (o1 := [.s, .p, .p, .o, .s, .o, .o, .s, .s, .s, .s, .s, .s]) (s_for (own := [.s, .p, .p, .o, .s, .o, .o, .s, .s, .s, .s, .s, .s]) (o1 := [.s, .p, .p, .o, .s, .o, .o, .s, .s, .s, .s, .s, .s]) (passes_of rfl) rfl (i_range1 m_range (x_cons (EX.o2p x_int) x_nil)) (g_name 8 sc__law_closed_right.nd)
 (s_cons (own := [.s, .p, .p, .o, .s, .o, .o, .s, .s, .s, .s, .s, .s]) (o1 := [.s, .p, .p, .o, .s, .o, .o, .s, .s, .s, .s, .s, .s]) (s_if (on := [.s, .p, .p, .o, .s, .o, .o, .s, .s, .s, .s, .s, .s]) (b_gtA rfl (hu64 hr) (EX.o2p (x_len rfl m_len (x_cons (x_var 4) x_nil))) (EX.o2p x_int))
 (s_cons (own := [.s, .p, .p, .o, .s, .o, .o, .s, .s, .s, .s, .s, .s]) (o1 := [.s, .p, .p, .o, .s, .o, .o, .s, .s, .s, .s, .s, .s]) (s_setS 9 sc__law_closed_right.nd (x_ix rfl (x_var 4) (EX.s2p (x_call rfl c__law_draw (hr.mono (by decide)) (L2N.takes_of rfl rfl rfl rfl) (m_s (x_varS 0) (m_s (EX.o2s (x_len rfl m_len (x_cons (x_var 4) x_nil))) m_nil))))))
  (s_cons (own := [.s, .p, .p, .o, .s, .o, .o, .s, .s, .s, .s, .s, .s]) (o1 := [.s, .p, .p, .o, .s, .o, .o, .s, .s, .s, .s, .s, .s]) (s_setS 10 sc__law_closed_right.nd (x_ix rfl (x_var 4) (EX.s2p (x_call rfl c__law_draw (hr.mono (by decide)) (L2N.takes_of rfl rfl rfl rfl) (m_s (x_varS 0) (m_s (EX.o2s (x_len rfl m_len (x_cons (x_var 4) x_nil))) m_nil))))))
  (s_cons (own := [.s, .p, .p, .o, .s, .o, .o, .s, .s, .s, .s, .s, .s]) (o1 := [.s, .p, .p, .o, .s, .o, .o, .s, .s, .s, .s, .s, .s]) (s_if (on := [.s, .p, .p, .o, .s, .o, .o, .s, .s, .s, .s, .s, .s]) (b_pw (w_or (b_tnotin (hu64 hr) (EX.o2p (x_tuple rfl m_tuple (x_cons (EX.o2p (x_call rfl c__law_mirror (hr.mono (by decide)) (L2N.takes_of rfl rfl rfl rfl) (m_p (x_var 9) (m_p (x_var 10) m_nil)))) x_nil))) (x_var 6)) (w_or (b_tnotin (hu64 hr) (EX.o2p (x_tuple rfl m_tuple (x_cons (EX.o2p (x_lc [("x", 12)] rfl sc__law_closed_right.nd (by kernel_rfl) (i_seq rfl (x_var 9)) (fun _ _ _ _ _ => (g_name 12 sc__law_closed_right.nd)) (fun _ _ _ _ _ => t_yes) (fun _ _ _ _ _ => (EX.o2s (x_sub (EX.o2p x_int) (x_var 12)))))) x_nil))) (x_var 6)) (w_or1 (b_notin rfl (hu65 hr) (x_var 9) (x_var 1))))))
 (s_cons (own := [.s, .p, .p, .o, .s, .o, .o, .s, .s, .s, .s, .s, .s]) (s_ret x_bl)
  (s_nil (own := [.s, .p, .p, .o, .s, .o, .o, .s, .s, .s, .s, .s, .s])))
 (s_nil))
  (s_nil))))
 (s_nil))
  (s_nil)))
  (s_cons (own := [.s, .p, .p, .o, .s, .o, .o, .s, .s, .s, .s, .s, .s]) (o1 := [.s, .p, .p, .o, .s, .o, .o, .s, .s, .s, .s, .s, .s]) (s_setS 11 sc__law_closed_right.nd (x_call rfl c_round_of_mirrors (hr.mono (by decide)) (L2N.takes_of rfl rfl rfl rfl) (m_p (x_var 3) m_nil)))
  (s_cons (own := [.s, .p, .p, .o, .s, .o, .o, .s, .s, .s, .s, .s, .s]) (o1 := [.s, .p, .p, .o, .s, .o, .o, .s, .s, .s, .s, .s, .s]) (s_if (on := [.s, .p, .p, .o, .s, .o, .o, .s, .s, .s, .s, .s, .s]) (b_pw (w_or (b_not (b_tru rfl (EX.o2p (x_call rfl c__law_whole (hr.mono (by decide)) (L2N.takes_of rfl rfl rfl rfl) (m_p (x_var 11) m_nil))))) (w_or (b_ne rfl (hu64 hr) (x_var 11) (EX.o2p (x_call rfl c__law_round (hr.mono (by decide)) (L2N.takes_of rfl rfl rfl rfl) (m_p (x_var 1) (m_p (x_var 2) m_nil))))) (w_or1 (b_ne rfl (hu64 hr) (x_var 3) (x_var 2))))))
 (s_cons (own := [.s, .p, .p, .o, .s, .o, .o, .s, .s, .s, .s, .s, .s]) (s_ret x_bl)
  (s_nil (own := [.s, .p, .p, .o, .s, .o, .o, .s, .s, .s, .s, .s, .s])))
 (s_nil))
  (s_cons (own := [.s, .p, .p, .o, .s, .o, .o, .s, .s, .s, .s, .s, .s]) (o1 := [.s, .p, .p, .o, .s, .o, .o, .s, .s, .s, .s, .s, .s]) (s_append 5 (EX.o2s (x_lst x_nil)))
  (s_cons (own := [.s, .p, .p, .o, .s, .o, .o, .s, .s, .s, .s, .s, .s]) (s_ret (x_eq rfl (hu64 hr) (EX.o2p (x_len rfl m_len (x_cons (EX.o2p (x_call rfl c_closed_by_mirrors (hr.mono (by decide)) (L2N.takes_of rfl rfl rfl rfl) (m_p (x_var 3) m_nil))) x_nil))) (EX.o2p (x_len rfl m_len (x_cons (x_var 4) x_nil)))))
  (s_nil (own := [.s, .p, .p, .o, .s, .o, .o, .s, .s, .s, .s, .s, .s])))))))))))))
theorem ok_law {f ff : Addr} {fd fdf : FuncData} (F : Fun K "law" "law" s_law f fd) (FF : Fun K "_law_feed" "_law_feed" s__law_feed ff fdf) (gF : mg "_law_feed" = some (.ref ff)) (bF : Binds K fdf ["script"] []) (m_list : mg "list" = none) (c__law_roots : Cal P w K mg base cls "_law_roots" 1 [] .o F__law_roots) (c__law_some : Cal P w K mg base cls "_law_some" 2 [false, true] .o F__law_some) (c__law_mirrored_right : Cal P w K mg base cls "_law_mirrored_right" 4 [false, true, false] .o F__law_mirrored_right) (c__law_closed_right : Cal P w K mg base cls "_law_closed_right" 5 [false, true, true] .o F__law_closed_right) (c__law_draw : Cal P w K mg base cls "_law_draw" 1 [false, false] .s F__law_draw) (c__law_product : Cal P w K mg base cls "_law_product" 1 [true, true] .o F__law_product) (c__law_lead_right : Cal P w K mg base cls "_law_lead_right" 5 [true, false, false] .o F__law_lead_right) (c_round_of_mirrors : Cal P w K mg base cls "round_of_mirrors" 4 [true] .s F_round_of_mirrors) (c_closed_by_mirrors : Cal P w K mg base cls "closed_by_mirrors" 3 [true] .o F_closed_by_mirrors) (c_lead_root : Cal P w K mg base cls "lead_root" 4 [true, true] .o F_lead_root) (c_mirrored : Cal P w K mg base cls "mirrored" 2 [true, true] .o F_mirrored) (c_mirrored_by : Cal P w K mg base cls "mirrored_by" 3 [true, true] .o F_mirrored_by) (m_range : mg "range" = none) (m_len : mg "len" = none) (m_int : mg "int" = none)
    (hB : ∀ φ : Fd, φ.Ok → ∃ φ', B_law ((List.replicate 13 none).set 1 (some .feed)) φ = .rt (.bl true) φ') :
    FnOk P w K mg base (L2N.CX P w) 6 f fd ["script"] (spLaw K) :=
  law_sem (cls := cls) (j := 1) F sc_law .s B_law rfl (by decide) (by decide) (fun cdv A outer s H E hr => ps_set (i := 1) sc_law.nd rfl (Or.inl rfl) (pe_call (ok__law_feed FF m_list) (hr.mono (by decide)) (by rfl) gF FF.kp bF .nil passN (pa_cons (pv 0) pa_nil)))
   (fun cdv A outer s H E cf cZ cH s0 r0 hr => (
s_cons (own := [.s, .s, .s, .s, .s, .s, .s, .s, .s, .s, .s, .s, .s]) (o1 := [.s, .s, .s, .s, .s, .s, .s, .s, .s, .s, .s, .s, .s]) (s_setS 2 sc_law.nd (EX.o2s (x_call0 rfl c__law_roots (hr.mono (by decide)))))
  (s_cons (own := [.s, .s, .s, .s, .s, .s, .s, .s, .s, .s, .s, .s, .s]) (o1 := [.s, .s, .s, .s, .s, .s, .s, .s, .s, .s, .s, .s, .s]) (s_setS 3 sc_law.nd (EX.o2s (x_call rfl c__law_some (hr.mono (by decide)) (L2N.takes_of rfl rfl rfl rfl) (m_s (x_varS 1) (m_p (x_var 2) m_nil)))))
  (s_cons (own := [.s, .s, .s, .s, .s, .s, .s, .s, .s, .s, .s, .s, .s]) (o1 := [.s, .s, .s, .s, .s, .s, .s, .s, .s, .s, .s, .s, .s]) (s_for (own := [.s, .s, .s, .s, .s, .s, .s, .s, .s, .s, .s, .s, .s]) (o1 := [.s, .s, .s, .s, .s, .s, .s, .s, .s, .s, .s, .s, .s]) (passes_of rfl) rfl (i_range1 m_range (x_cons (EX.o2p x_int) x_nil)) (g_name 4 sc_law.nd)
 (s_cons (own := [.s, .s, .s, .s, .s, .s, .s, .s, .s, .s, .s, .s, .s]) (o1 := [.s, .s, .s, .s, .s, .s, .s, .s, .s, .s, .s, .s, .s]) (s_if (on := [.s, .s, .s, .s, .s, .s, .s, .s, .s, .s, .s, .s, .s]) (b_not (b_tru rfl (EX.o2p (x_call rfl c__law_mirrored_right (hr.mono (by decide)) (L2N.takes_of rfl rfl rfl rfl) (m_s (x_varS 1) (m_p (x_var 2) (m_s (x_varS 3) m_nil)))))))
 (s_cons (own := [.s, .s, .s, .s, .s, .s, .s, .s, .s, .s, .s, .s, .s]) (s_ret (EX.o2s x_bl))
  (s_nil (own := [.s, .s, .s, .s, .s, .s, .s, .s, .s, .s, .s, .s, .s])))
 (s_nil))
  (s_nil)))
  (s_cons (own := [.s, .s, .s, .s, .s, .s, .s, .s, .s, .s, .s, .s, .s]) (o1 := [.s, .s, .s, .s, .s, .s, .s, .s, .s, .s, .s, .s, .s]) (s_if (on := [.s, .s, .s, .s, .s, .s, .s, .s, .s, .s, .s, .s, .s]) (b_not (b_tru rfl (EX.o2p (x_call rfl c__law_closed_right (hr.mono (by decide)) (L2N.takes_of rfl rfl rfl rfl) (m_s (x_varS 1) (m_p (x_var 2) (m_p (x_var 3) m_nil)))))))
 (s_cons (own := [.s, .s, .s, .s, .s, .s, .s, .s, .s, .s, .s, .s, .s]) (s_ret (EX.o2s x_bl))
  (s_nil (own := [.s, .s, .s, .s, .s, .s, .s, .s, .s, .s, .s, .s, .s])))
 (s_nil))
  (s_cons (own := [.s, .s, .s, .s, .s, .s, .s, .s, .s, .s, .s, .s, .s]) (o1 := [.s, .s, .s, .s, .s, .s, .s, .s, .s, .s, .s, .s, .s]) (s_setS 5 sc_law.nd (x_ix rfl (x_var 2) (EX.s2p (x_call rfl c__law_draw (hr.mono (by decide)) (L2N.takes_of rfl rfl rfl rfl) (m_s (x_varS 1) (m_s (EX.o2s x_int) m_nil))))))
  (s_cons (own := [.s, .s, .s, .s, .s, .s, .s, .s, .s, .s, .s, .s, .s]) (o1 := [.s, .s, .s, .s, .s, .s, .s, .s, .s, .s, .s, .s, .s]) (s_setS 6 sc_law.nd (x_ix rfl (EX.o2p (x_lst (x_cons (EX.o2s x_int) (x_cons (EX.o2s x_int) (x_cons (EX.o2s x_int) (x_cons (EX.o2s (x_neg (EX.o2p x_int))) (x_cons (EX.o2s (x_neg (EX.o2p x_int))) x_nil))))))) (EX.s2p (x_call rfl c__law_draw (hr.mono (by decide)) (L2N.takes_of rfl rfl rfl rfl) (m_s (x_varS 1) (m_s (EX.o2s x_int) m_nil))))))
  (s_cons (own := [.s, .s, .s, .s, .s, .s, .s, .s, .s, .s, .s, .s, .s]) (o1 := [.s, .s, .s, .s, .s, .s, .s, .o, .s, .s, .s, .s, .s]) (s_setLc 7 [("own", 11)] rfl sc_law.nd (by kernel_rfl) (i_seq rfl (x_var 2)) (fun _ _ _ _ _ => (g_name 11 sc_law.nd)) (fun _ _ _ _ _ => (t_one (b_eq rfl (hu64 hr) (EX.o2p (x_call rfl c__law_product (hr.mono (by decide)) takes0N (m_p (x_var 5) (m_p (x_var 11) m_nil)))) (x_var 6)))) (fun _ _ _ _ _ => (x_varS 11)))
  (s_cons (own := [.s, .s, .s, .s, .s, .s, .s, .o, .s, .s, .s, .s, .s]) (o1 := [.s, .s, .s, .s, .s, .s, .s, .o, .s, .s, .s, .s, .s]) (s_for (own := [.s, .s, .s, .s, .s, .s, .s, .o, .s, .s, .s, .s, .s]) (o1 := [.s, .s, .s, .s, .s, .s, .s, .o, .s, .s, .s, .s, .s]) (passes_of rfl) rfl (i_seq rfl (EX.o2s (x_lst (x_cons (x_ix rfl (x_var 7) (EX.s2p (x_call rfl c__law_draw (hr.mono (by decide)) (L2N.takes_of rfl rfl rfl rfl) (m_s (x_varS 1) (m_s (EX.o2s (x_len rfl m_len (x_cons (x_var 7) x_nil))) m_nil))))) (x_cons (x_ix rfl (x_var 2) (EX.s2p (x_call rfl c__law_draw (hr.mono (by decide)) (L2N.takes_of rfl rfl rfl rfl) (m_s (x_varS 1) (m_s (EX.o2s x_int) m_nil))))) x_nil))))) (g_name 8 sc_law.nd)
 (s_cons (own := [.s, .s, .s, .s, .s, .s, .s, .o, .s, .s, .s, .s, .s]) (o1 := [.s, .s, .s, .s, .s, .s, .s, .o, .s, .s, .s, .s, .s]) (s_if (on := [.s, .s, .s, .s, .s, .s, .s, .o, .s, .s, .s, .s, .s]) (b_not (b_tru rfl (EX.o2p (x_call rfl c__law_lead_right (hr.mono (by decide)) (L2N.takes_of rfl rfl rfl rfl) (m_p (x_var 2) (m_s (x_varS 5) (m_s (x_varS 8) m_nil)))))))
 (s_cons (own := [.s, .s, .s, .s, .s, .s, .s, .o, .s, .s, .s, .s, .s]) (s_ret (EX.o2s x_bl))
  (s_nil (own := [.s, .s, .s, .s, .s, .s, .s, .o, .s, .s, .s, .s, .s])))
 (s_nil))
  (s_nil)))
  (s_cons (own := [.s, .s, .s, .s, .s, .s, .s, .o, .s, .s, .s, .s, .s]) (o1 := [.s, .s, .s, .s, .s, .s, .s, .o, .s, .o, .s, .s, .s]) (s_setO 9 sc_law.nd (x_lst (x_cons (EX.o2s (x_lst (x_cons (EX.o2s x_int) (x_cons (EX.o2s (x_neg (EX.o2p x_int))) (x_cons (EX.o2s (x_neg (EX.o2p x_int))) (x_cons (EX.o2s (x_neg (EX.o2p x_int))) (x_cons (EX.o2s (x_neg (EX.o2p x_int))) (x_cons (EX.o2s (x_neg (EX.o2p x_int))) (x_cons (EX.o2s (x_neg (EX.o2p x_int))) (x_cons (EX.o2s x_int) x_nil)))))))))) (x_cons (EX.o2s (x_lst (x_cons (EX.o2s x_int) (x_cons (EX.o2s x_int) (x_cons (EX.o2s x_int) (x_cons (EX.o2s x_int) (x_cons (EX.o2s x_int) (x_cons (EX.o2s x_int) (x_cons (EX.o2s x_int) (x_cons (EX.o2s x_int) x_nil)))))))))) x_nil))))
  (s_cons (own := [.s, .s, .s, .s, .s, .s, .s, .o, .s, .o, .s, .s, .s]) (o1 := [.s, .s, .s, .s, .s, .s, .s, .o, .s, .o, .s, .s, .s]) (s_for (own := [.s, .s, .s, .s, .s, .s, .s, .o, .s, .o, .s, .s, .s]) (o1 := [.s, .s, .s, .s, .s, .s, .s, .o, .s, .o, .s, .s, .s]) (passes_of rfl) rfl (i_range1 m_range (x_cons (EX.o2p x_int) x_nil)) (g_name 10 sc_law.nd)
 (s_cons (own := [.s, .s, .s, .s, .s, .s, .s, .o, .s, .o, .s, .s, .s]) (o1 := [.s, .s, .s, .s, .s, .s, .s, .o, .s, .o, .s, .s, .s]) (s_append 9 (EX.o2s (x_lc [("k", 12)] rfl sc_law.nd (by kernel_rfl) (i_range1 m_range (x_cons (EX.o2p x_int) x_nil)) (fun _ _ _ _ _ => (g_name 12 sc_law.nd)) (fun _ _ _ _ _ => t_yes) (fun _ _ _ _ _ => (EX.o2s (x_sub (EX.o2p (x_mul (EX.o2p x_int) (EX.o2p (x_int1 m_int (x_cons (EX.o2p (x_eq rfl (hu64 hr) (x_var 12) (EX.o2p (x_add rfl (x_var 10) (EX.o2p x_int))))) x_nil))))) (EX.o2p (x_mul (EX.o2p x_int) (EX.o2p (x_int1 m_int (x_cons (EX.o2p (x_eq rfl (hu64 hr) (x_var 12) (x_var 10))) x_nil)))))))))))
  (s_nil)))
  (s_cons (own := [.s, .s, .s, .s, .s, .s, .s, .o, .s, .o, .s, .s, .s]) (o1 := [.s, .s, .s, .s, .s, .s, .s, .o, .s, .o, .s, .s, .s]) (s_if (on := [.s, .s, .s, .s, .s, .s, .s, .o, .s, .o, .s, .s, .s]) (b_pw (w_or (b_ne rfl (hu64 hr) (EX.s2p (x_call rfl c_round_of_mirrors (hr.mono (by decide)) (L2N.takes_of rfl rfl rfl rfl) (m_p (x_var 9) m_nil))) (EX.o2p x_int)) (w_or (b_ne rfl (hu64 hr) (EX.o2p (x_call rfl c_closed_by_mirrors (hr.mono (by decide)) (L2N.takes_of rfl rfl rfl rfl) (m_p (EX.o2p (x_lst x_nil)) m_nil))) (EX.o2p (x_lst x_nil))) (w_or (b_ne rfl (hu64 hr) (EX.s2p (x_call rfl c_round_of_mirrors (hr.mono (by decide)) (L2N.takes_of rfl rfl rfl rfl) (m_p (EX.o2p (x_lst x_nil)) m_nil))) (EX.o2p x_int)) (w_or1 (b_ne rfl (hu64 hr) (EX.o2p (x_call rfl c_lead_root (hr.mono (by decide)) (L2N.takes_of rfl rfl rfl rfl) (m_p (x_var 5) (m_p (x_var 5) m_nil)))) (EX.o2p (x_lst x_nil))))))))
 (s_cons (own := [.s, .s, .s, .s, .s, .s, .s, .o, .s, .o, .s, .s, .s]) (s_ret (EX.o2s x_bl))
  (s_nil (own := [.s, .s, .s, .s, .s, .s, .s, .o, .s, .o, .s, .s, .s])))
 (s_nil))
  (s_cons (own := [.s, .s, .s, .s, .s, .s, .s, .o, .s, .o, .s, .s, .s]) (o1 := [.s, .s, .s, .s, .s, .s, .s, .o, .s, .o, .s, .s, .s]) (s_if (on := [.s, .s, .s, .s, .s, .s, .s, .o, .s, .o, .s, .s, .s]) (b_ne rfl (hu64 hr) (EX.o2p (x_call rfl c_lead_root (hr.mono (by decide)) (L2N.takes_of rfl rfl rfl rfl) (m_p (EX.o2p (x_lst (x_cons (EX.o2s x_int) (x_cons (EX.o2s x_int) (x_cons (EX.o2s x_int) (x_cons (EX.o2s x_int) (x_cons (EX.o2s x_int) (x_cons (EX.o2s x_int) (x_cons (EX.o2s x_int) (x_cons (EX.o2s x_int) x_nil)))))))))) (m_p (EX.o2p (x_lst (x_cons (EX.o2s (x_neg (EX.o2p x_int))) (x_cons (EX.o2s (x_neg (EX.o2p x_int))) (x_cons (EX.o2s x_int) (x_cons (EX.o2s x_int) (x_cons (EX.o2s x_int) (x_cons (EX.o2s x_int) (x_cons (EX.o2s x_int) (x_cons (EX.o2s x_int) x_nil)))))))))) m_nil)))) (EX.o2p (x_lst (x_cons (EX.o2s (x_lst (x_cons (EX.o2s (x_neg (EX.o2p x_int))) (x_cons (EX.o2s (x_neg (EX.o2p x_int))) (x_cons (EX.o2s x_int) (x_cons (EX.o2s x_int) (x_cons (EX.o2s x_int) (x_cons (EX.o2s x_int) (x_cons (EX.o2s x_int) (x_cons (EX.o2s x_int) x_nil)))))))))) x_nil))))
 (s_cons (own := [.s, .s, .s, .s, .s, .s, .s, .o, .s, .o, .s, .s, .s]) (s_ret (EX.o2s x_bl))
  (s_nil (own := [.s, .s, .s, .s, .s, .s, .s, .o, .s, .o, .s, .s, .s])))
 (s_nil))
  (s_cons (own := [.s, .s, .s, .s, .s, .s, .s, .o, .s, .o, .s, .s, .s]) (o1 := [.s, .s, .s, .s, .s, .s, .s, .o, .s, .o, .s, .s, .s]) (s_if (on := [.s, .s, .s, .s, .s, .s, .s, .o, .s, .o, .s, .s, .s]) (b_pw (w_or (b_ne rfl (hu64 hr) (EX.o2p (x_call rfl c_closed_by_mirrors (hr.mono (by decide)) (L2N.takes_of rfl rfl rfl rfl) (m_p (EX.o2p (x_lst (x_cons (x_ix rfl (x_var 9) (EX.o2p x_int)) x_nil))) m_nil))) (EX.o2p (x_lst (x_cons (EX.o2s (x_lst (x_cons (EX.o2s (x_neg (EX.o2p x_int))) (x_cons (EX.o2s (x_neg (EX.o2p x_int))) (x_cons (EX.o2s x_int) (x_cons (EX.o2s x_int) (x_cons (EX.o2s x_int) (x_cons (EX.o2s x_int) (x_cons (EX.o2s x_int) (x_cons (EX.o2s x_int) x_nil)))))))))) (x_cons (EX.o2s (x_lst (x_cons (EX.o2s x_int) (x_cons (EX.o2s x_int) (x_cons (EX.o2s x_int) (x_cons (EX.o2s x_int) (x_cons (EX.o2s x_int) (x_cons (EX.o2s x_int) (x_cons (EX.o2s x_int) (x_cons (EX.o2s x_int) x_nil)))))))))) x_nil))))) (w_or1 (b_ne rfl (hu64 hr) (EX.s2p (x_call rfl c_round_of_mirrors (hr.mono (by decide)) (L2N.takes_of rfl rfl rfl rfl) (m_p (EX.o2p (x_sl rfl (x_var 9) (o_some (EX.o2p x_int)) (o_some (EX.o2p x_int)))) m_nil))) (EX.o2p x_int)))))
 (s_cons (own := [.s, .s, .s, .s, .s, .s, .s, .o, .s, .o, .s, .s, .s]) (s_ret (EX.o2s x_bl))
  (s_nil (own := [.s, .s, .s, .s, .s, .s, .s, .o, .s, .o, .s, .s, .s])))
 (s_nil))
  (s_cons (own := [.s, .s, .s, .s, .s, .s, .s, .o, .s, .o, .s, .s, .s]) (s_ret (x_and (EX.o2p (x_eq rfl (hu64 hr) (EX.o2p (x_call rfl c_mirrored (hr.mono (by decide)) (L2N.takes_of rfl rfl rfl rfl) (m_p (EX.s2p (x_ix rfl (x_var 9) (EX.o2p x_int))) (m_p (EX.o2p (x_lst (x_cons (EX.o2s x_int) (x_cons (EX.o2s x_int) (x_cons (EX.o2s x_int) (x_cons (EX.o2s x_int) (x_cons (EX.o2s x_int) (x_cons (EX.o2s x_int) (x_cons (EX.o2s x_int) (x_cons (EX.o2s x_int) x_nil)))))))))) m_nil)))) (EX.o2p (x_lst (x_cons (EX.o2s x_int) (x_cons (EX.o2s (x_neg (EX.o2p x_int))) (x_cons (EX.o2s x_int) (x_cons (EX.o2s x_int) (x_cons (EX.o2s x_int) (x_cons (EX.o2s x_int) (x_cons (EX.o2s x_int) (x_cons (EX.o2s x_int) x_nil)))))))))))) (x_one (EX.o2s (x_eq rfl (hu64 hr) (EX.o2p (x_call rfl c_mirrored_by (hr.mono (by decide)) (L2N.takes_of rfl rfl rfl rfl) (m_p (EX.o2p (x_lst x_nil)) (m_p (EX.s2p (x_ix rfl (x_var 9) (EX.o2p x_int))) m_nil)))) (EX.s2p (x_ix rfl (x_var 9) (EX.o2p x_int))))))))
  (s_nil (own := [.s, .s, .s, .s, .s, .s, .s, .o, .s, .o, .s, .s, .s]))))))))))))))))) hB
end
theorem all_mk {l : PySem.W.OpenLaw} {w : World} {K : PySem.W.Frag} {h : Heap} {mg : Str → Option Value} {fa : Addr} (X : K.In h) (G : h.Ns mainGlobals mg) (hfa : mg "law" = some (.ref fa))
    {f0 f1 f2 f3 f4 f5 f6 f7 f8 f9 f10 f11 f12 f13 f14 f15 f16 f17 f18 f19 f20 f21 f22 f23 f24 f25 f26 f27 f28 f29 f30 : Addr} {od0 an0 od1 an1 od2 an2 od3 an3 od4 an4 od5 an5 od6 an6 od7 an7 od8 an8 od9 an9 od10 an10 od11 an11 od12 an12 od13 an13 od14 an14 od15 an15 od16 an16 od17 an17 od18 an18 od19 an19 od20 an20 od21 an21 od22 an22 od23 an23 od24 an24 od25 an25 od26 an26 od27 an27 od28 an28 od29 an29 od30 an30 : Option Addr} {sl0 sl1 sl2 sl3 sl4 sl5 sl6 sl7 sl8 sl9 sl10 sl11 sl12 sl13 sl14 sl15 sl16 sl17 sl18 sl19 sl20 sl21 sl22 sl23 sl24 sl25 sl26 sl27 sl28 sl29 sl30 : Array (Option Value)} {oc0 kV0 dc0 pm0 cd0 ct0 oc1 kV1 dc1 pm1 cd1 ct1 oc2 kV2 dc2 pm2 cd2 ct2 oc3 kV3 dc3 pm3 cd3 ct3 oc4 kV4 dc4 pm4 cd4 ct4 oc5 kV5 dc5 pm5 cd5 ct5 oc6 kV6 dc6 pm6 cd6 ct6 oc7 kV7 dc7 pm7 cd7 ct7 oc8 kV8 dc8 pm8 cd8 ct8 oc9 kV9 dc9 pm9 cd9 ct9 oc10 kV10 dc10 pm10 cd10 ct10 oc11 kV11 dc11 pm11 cd11 ct11 oc12 kV12 dc12 pm12 cd12 ct12 oc13 kV13 dc13 pm13 cd13 ct13 oc14 kV14 dc14 pm14 cd14 ct14 oc15 kV15 dc15 pm15 cd15 ct15 oc16 kV16 dc16 pm16 cd16 ct16 oc17 kV17 dc17 pm17 cd17 ct17 oc18 kV18 dc18 pm18 cd18 ct18 oc19 kV19 dc19 pm19 cd19 ct19 oc20 kV20 dc20 pm20 cd20 ct20 oc21 kV21 dc21 pm21 cd21 ct21 oc22 kV22 dc22 pm22 cd22 ct22 oc23 kV23 dc23 pm23 cd23 ct23 oc24 kV24 dc24 pm24 cd24 ct24 oc25 kV25 dc25 pm25 cd25 ct25 oc26 kV26 dc26 pm26 cd26 ct26 oc27 kV27 dc27 pm27 cd27 ct27 oc28 kV28 dc28 pm28 cd28 ct28 oc29 kV29 dc29 pm29 cd29 ct29 oc30 kV30 dc30 pm30 cd30 ct30 : Value}
    (a0 : PySem.W.nsIn K mainGlobals "row_product" = some (some (.ref f0))) (l0 : K.lookup f0 = some ⟨oc0, od0, .func (PySem.W.fnOf "row_product" "row_product" (defArgs s_row_product) (defBody s_row_product) (defScope s_row_product) .none kV0 dc0 pm0 an0 cd0 ct0), sl0⟩) (c0 : PySem.W.codeIn K cd0 "row_product" = true) (k0 : PySem.W.keepIn K (.ref f0) = true)
    (a1 : PySem.W.nsIn K mainGlobals "row_less" = some (some (.ref f1))) (l1 : K.lookup f1 = some ⟨oc1, od1, .func (PySem.W.fnOf "row_less" "row_less" (defArgs s_row_less) (defBody s_row_less) (defScope s_row_less) .none kV1 dc1 pm1 an1 cd1 ct1), sl1⟩) (c1 : PySem.W.codeIn K cd1 "row_less" = true) (k1 : PySem.W.keepIn K (.ref f1) = true)
    (a2 : PySem.W.nsIn K mainGlobals "row_times" = some (some (.ref f2))) (l2 : K.lookup f2 = some ⟨oc2, od2, .func (PySem.W.fnOf "row_times" "row_times" (defArgs s_row_times) (defBody s_row_times) (defScope s_row_times) .none kV2 dc2 pm2 an2 cd2 ct2), sl2⟩) (c2 : PySem.W.codeIn K cd2 "row_times" = true) (k2 : PySem.W.keepIn K (.ref f2) = true)
    (a3 : PySem.W.nsIn K mainGlobals "even_roots" = some (some (.ref f3))) (l3 : K.lookup f3 = some ⟨oc3, od3, .func (PySem.W.fnOf "even_roots" "even_roots" (defArgs s_even_roots) (defBody s_even_roots) (defScope s_even_roots) .none kV3 dc3 pm3 an3 cd3 ct3), sl3⟩) (c3 : PySem.W.codeIn K cd3 "even_roots" = true) (k3 : PySem.W.keepIn K (.ref f3) = true)
    (a4 : PySem.W.nsIn K mainGlobals "odd_roots" = some (some (.ref f4))) (l4 : K.lookup f4 = some ⟨oc4, od4, .func (PySem.W.fnOf "odd_roots" "odd_roots" (defArgs s_odd_roots) (defBody s_odd_roots) (defScope s_odd_roots) .none kV4 dc4 pm4 an4 cd4 ct4), sl4⟩) (c4 : PySem.W.codeIn K cd4 "odd_roots" = true) (k4 : PySem.W.keepIn K (.ref f4) = true)
    (a5 : PySem.W.nsIn K mainGlobals "all_roots" = some (some (.ref f5))) (l5 : K.lookup f5 = some ⟨oc5, od5, .func (PySem.W.fnOf "all_roots" "all_roots" (defArgs s_all_roots) (defBody s_all_roots) (defScope s_all_roots) .none kV5 dc5 pm5 an5 cd5 ct5), sl5⟩) (c5 : PySem.W.codeIn K cd5 "all_roots" = true) (k5 : PySem.W.keepIn K (.ref f5) = true)
    (a6 : PySem.W.nsIn K mainGlobals "base_roots" = some (some (.ref f6))) (l6 : K.lookup f6 = some ⟨oc6, od6, .func (PySem.W.fnOf "base_roots" "base_roots" (defArgs s_base_roots) (defBody s_base_roots) (defScope s_base_roots) .none kV6 dc6 pm6 an6 cd6 ct6), sl6⟩) (c6 : PySem.W.codeIn K cd6 "base_roots" = true) (k6 : PySem.W.keepIn K (.ref f6) = true)
    (a7 : PySem.W.nsIn K mainGlobals "mirrored" = some (some (.ref f7))) (l7 : K.lookup f7 = some ⟨oc7, od7, .func (PySem.W.fnOf "mirrored" "mirrored" (defArgs s_mirrored) (defBody s_mirrored) (defScope s_mirrored) .none kV7 dc7 pm7 an7 cd7 ct7), sl7⟩) (c7 : PySem.W.codeIn K cd7 "mirrored" = true) (k7 : PySem.W.keepIn K (.ref f7) = true)
    (a8 : PySem.W.nsIn K mainGlobals "mirrored_by" = some (some (.ref f8))) (l8 : K.lookup f8 = some ⟨oc8, od8, .func (PySem.W.fnOf "mirrored_by" "mirrored_by" (defArgs s_mirrored_by) (defBody s_mirrored_by) (defScope s_mirrored_by) .none kV8 dc8 pm8 an8 cd8 ct8), sl8⟩) (c8 : PySem.W.codeIn K cd8 "mirrored_by" = true) (k8 : PySem.W.keepIn K (.ref f8) = true)
    (a9 : PySem.W.nsIn K mainGlobals "one_mirror" = some (some (.ref f9))) (l9 : K.lookup f9 = some ⟨oc9, od9, .func (PySem.W.fnOf "one_mirror" "one_mirror" (defArgs s_one_mirror) (defBody s_one_mirror) (defScope s_one_mirror) .none kV9 dc9 pm9 an9 cd9 ct9), sl9⟩) (c9 : PySem.W.codeIn K cd9 "one_mirror" = true) (k9 : PySem.W.keepIn K (.ref f9) = true)
    (a10 : PySem.W.nsIn K mainGlobals "lead_root" = some (some (.ref f10))) (l10 : K.lookup f10 = some ⟨oc10, od10, .func (PySem.W.fnOf "lead_root" "lead_root" (defArgs s_lead_root) (defBody s_lead_root) (defScope s_lead_root) .none kV10 dc10 pm10 an10 cd10 ct10), sl10⟩) (c10 : PySem.W.codeIn K cd10 "lead_root" = true) (k10 : PySem.W.keepIn K (.ref f10) = true)
    (a11 : PySem.W.nsIn K mainGlobals "closed_by_mirrors" = some (some (.ref f11))) (l11 : K.lookup f11 = some ⟨oc11, od11, .func (PySem.W.fnOf "closed_by_mirrors" "closed_by_mirrors" (defArgs s_closed_by_mirrors) (defBody s_closed_by_mirrors) (defScope s_closed_by_mirrors) .none kV11 dc11 pm11 an11 cd11 ct11), sl11⟩) (c11 : PySem.W.codeIn K cd11 "closed_by_mirrors" = true) (k11 : PySem.W.keepIn K (.ref f11) = true)
    (a12 : PySem.W.nsIn K mainGlobals "round_of_mirrors" = some (some (.ref f12))) (l12 : K.lookup f12 = some ⟨oc12, od12, .func (PySem.W.fnOf "round_of_mirrors" "round_of_mirrors" (defArgs s_round_of_mirrors) (defBody s_round_of_mirrors) (defScope s_round_of_mirrors) .none kV12 dc12 pm12 an12 cd12 ct12), sl12⟩) (c12 : PySem.W.codeIn K cd12 "round_of_mirrors" = true) (k12 : PySem.W.keepIn K (.ref f12) = true)
    (a13 : PySem.W.nsIn K mainGlobals "_law_feed" = some (some (.ref f13))) (l13 : K.lookup f13 = some ⟨oc13, od13, .func (PySem.W.fnOf "_law_feed" "_law_feed" (defArgs s__law_feed) (defBody s__law_feed) (defScope s__law_feed) .none kV13 dc13 pm13 an13 cd13 ct13), sl13⟩) (c13 : PySem.W.codeIn K cd13 "_law_feed" = true) (k13 : PySem.W.keepIn K (.ref f13) = true)
    (a14 : PySem.W.nsIn K mainGlobals "_law_draw" = some (some (.ref f14))) (l14 : K.lookup f14 = some ⟨oc14, od14, .func (PySem.W.fnOf "_law_draw" "_law_draw" (defArgs s__law_draw) (defBody s__law_draw) (defScope s__law_draw) .none kV14 dc14 pm14 an14 cd14 ct14), sl14⟩) (c14 : PySem.W.codeIn K cd14 "_law_draw" = true) (k14 : PySem.W.keepIn K (.ref f14) = true)
    (a15 : PySem.W.nsIn K mainGlobals "_law_whole" = some (some (.ref f15))) (l15 : K.lookup f15 = some ⟨oc15, od15, .func (PySem.W.fnOf "_law_whole" "_law_whole" (defArgs s__law_whole) (defBody s__law_whole) (defScope s__law_whole) .none kV15 dc15 pm15 an15 cd15 ct15), sl15⟩) (c15 : PySem.W.codeIn K cd15 "_law_whole" = true) (k15 : PySem.W.keepIn K (.ref f15) = true)
    (a16 : PySem.W.nsIn K mainGlobals "_law_wholes" = some (some (.ref f16))) (l16 : K.lookup f16 = some ⟨oc16, od16, .func (PySem.W.fnOf "_law_wholes" "_law_wholes" (defArgs s__law_wholes) (defBody s__law_wholes) (defScope s__law_wholes) .none kV16 dc16 pm16 an16 cd16 ct16), sl16⟩) (c16 : PySem.W.codeIn K cd16 "_law_wholes" = true) (k16 : PySem.W.keepIn K (.ref f16) = true)
    (a17 : PySem.W.nsIn K mainGlobals "_law_roots" = some (some (.ref f17))) (l17 : K.lookup f17 = some ⟨oc17, od17, .func (PySem.W.fnOf "_law_roots" "_law_roots" (defArgs s__law_roots) (defBody s__law_roots) (defScope s__law_roots) .none kV17 dc17 pm17 an17 cd17 ct17), sl17⟩) (c17 : PySem.W.codeIn K cd17 "_law_roots" = true) (k17 : PySem.W.keepIn K (.ref f17) = true)
    (a18 : PySem.W.nsIn K mainGlobals "_law_product" = some (some (.ref f18))) (l18 : K.lookup f18 = some ⟨oc18, od18, .func (PySem.W.fnOf "_law_product" "_law_product" (defArgs s__law_product) (defBody s__law_product) (defScope s__law_product) .none kV18 dc18 pm18 an18 cd18 ct18), sl18⟩) (c18 : PySem.W.codeIn K cd18 "_law_product" = true) (k18 : PySem.W.keepIn K (.ref f18) = true)
    (a19 : PySem.W.nsIn K mainGlobals "_law_mirror" = some (some (.ref f19))) (l19 : K.lookup f19 = some ⟨oc19, od19, .func (PySem.W.fnOf "_law_mirror" "_law_mirror" (defArgs s__law_mirror) (defBody s__law_mirror) (defScope s__law_mirror) .none kV19 dc19 pm19 an19 cd19 ct19), sl19⟩) (c19 : PySem.W.codeIn K cd19 "_law_mirror" = true) (k19 : PySem.W.keepIn K (.ref f19) = true)
    (a20 : PySem.W.nsIn K mainGlobals "_law_close" = some (some (.ref f20))) (l20 : K.lookup f20 = some ⟨oc20, od20, .func (PySem.W.fnOf "_law_close" "_law_close" (defArgs s__law_close) (defBody s__law_close) (defScope s__law_close) .none kV20 dc20 pm20 an20 cd20 ct20), sl20⟩) (c20 : PySem.W.codeIn K cd20 "_law_close" = true) (k20 : PySem.W.keepIn K (.ref f20) = true)
    (a21 : PySem.W.nsIn K mainGlobals "_law_row" = some (some (.ref f21))) (l21 : K.lookup f21 = some ⟨oc21, od21, .func (PySem.W.fnOf "_law_row" "_law_row" (defArgs s__law_row) (defBody s__law_row) (defScope s__law_row) .none kV21 dc21 pm21 an21 cd21 ct21), sl21⟩) (c21 : PySem.W.codeIn K cd21 "_law_row" = true) (k21 : PySem.W.keepIn K (.ref f21) = true)
    (a22 : PySem.W.nsIn K mainGlobals "_law_lists_same" = some (some (.ref f22))) (l22 : K.lookup f22 = some ⟨oc22, od22, .func (PySem.W.fnOf "_law_lists_same" "_law_lists_same" (defArgs s__law_lists_same) (defBody s__law_lists_same) (defScope s__law_lists_same) .none kV22 dc22 pm22 an22 cd22 ct22), sl22⟩) (c22 : PySem.W.codeIn K cd22 "_law_lists_same" = true) (k22 : PySem.W.keepIn K (.ref f22) = true)
    (a23 : PySem.W.nsIn K mainGlobals "_law_some" = some (some (.ref f23))) (l23 : K.lookup f23 = some ⟨oc23, od23, .func (PySem.W.fnOf "_law_some" "_law_some" (defArgs s__law_some) (defBody s__law_some) (defScope s__law_some) .none kV23 dc23 pm23 an23 cd23 ct23), sl23⟩) (c23 : PySem.W.codeIn K cd23 "_law_some" = true) (k23 : PySem.W.keepIn K (.ref f23) = true)
    (a24 : PySem.W.nsIn K mainGlobals "_law_one" = some (some (.ref f24))) (l24 : K.lookup f24 = some ⟨oc24, od24, .func (PySem.W.fnOf "_law_one" "_law_one" (defArgs s__law_one) (defBody s__law_one) (defScope s__law_one) .none kV24 dc24 pm24 an24 cd24 ct24), sl24⟩) (c24 : PySem.W.codeIn K cd24 "_law_one" = true) (k24 : PySem.W.keepIn K (.ref f24) = true)
    (a25 : PySem.W.nsIn K mainGlobals "_law_lead" = some (some (.ref f25))) (l25 : K.lookup f25 = some ⟨oc25, od25, .func (PySem.W.fnOf "_law_lead" "_law_lead" (defArgs s__law_lead) (defBody s__law_lead) (defScope s__law_lead) .none kV25 dc25 pm25 an25 cd25 ct25), sl25⟩) (c25 : PySem.W.codeIn K cd25 "_law_lead" = true) (k25 : PySem.W.keepIn K (.ref f25) = true)
    (a26 : PySem.W.nsIn K mainGlobals "_law_round" = some (some (.ref f26))) (l26 : K.lookup f26 = some ⟨oc26, od26, .func (PySem.W.fnOf "_law_round" "_law_round" (defArgs s__law_round) (defBody s__law_round) (defScope s__law_round) .none kV26 dc26 pm26 an26 cd26 ct26), sl26⟩) (c26 : PySem.W.codeIn K cd26 "_law_round" = true) (k26 : PySem.W.keepIn K (.ref f26) = true)
    (a27 : PySem.W.nsIn K mainGlobals "_law_mirrored_right" = some (some (.ref f27))) (l27 : K.lookup f27 = some ⟨oc27, od27, .func (PySem.W.fnOf "_law_mirrored_right" "_law_mirrored_right" (defArgs s__law_mirrored_right) (defBody s__law_mirrored_right) (defScope s__law_mirrored_right) .none kV27 dc27 pm27 an27 cd27 ct27), sl27⟩) (c27 : PySem.W.codeIn K cd27 "_law_mirrored_right" = true) (k27 : PySem.W.keepIn K (.ref f27) = true)
    (a28 : PySem.W.nsIn K mainGlobals "_law_lead_right" = some (some (.ref f28))) (l28 : K.lookup f28 = some ⟨oc28, od28, .func (PySem.W.fnOf "_law_lead_right" "_law_lead_right" (defArgs s__law_lead_right) (defBody s__law_lead_right) (defScope s__law_lead_right) .none kV28 dc28 pm28 an28 cd28 ct28), sl28⟩) (c28 : PySem.W.codeIn K cd28 "_law_lead_right" = true) (k28 : PySem.W.keepIn K (.ref f28) = true)
    (a29 : PySem.W.nsIn K mainGlobals "_law_closed_right" = some (some (.ref f29))) (l29 : K.lookup f29 = some ⟨oc29, od29, .func (PySem.W.fnOf "_law_closed_right" "_law_closed_right" (defArgs s__law_closed_right) (defBody s__law_closed_right) (defScope s__law_closed_right) .none kV29 dc29 pm29 an29 cd29 ct29), sl29⟩) (c29 : PySem.W.codeIn K cd29 "_law_closed_right" = true) (k29 : PySem.W.keepIn K (.ref f29) = true)
    (a30 : PySem.W.nsIn K mainGlobals "law" = some (some (.ref f30))) (l30 : K.lookup f30 = some ⟨oc30, od30, .func (PySem.W.fnOf "law" "law" (defArgs s_law) (defBody s_law) (defScope s_law) .none kV30 dc30 pm30 an30 cd30 ct30), sl30⟩) (c30 : PySem.W.codeIn K cd30 "law" = true) (k30 : PySem.W.keepIn K (.ref f30) = true)
    (z_sum : PySem.W.nsIn K mainGlobals "sum" = some none)
    (z_zip : PySem.W.nsIn K mainGlobals "zip" = some none)
    (z_range : PySem.W.nsIn K mainGlobals "range" = some none)
    (z_sorted : PySem.W.nsIn K mainGlobals "sorted" = some none)
    (z_list : PySem.W.nsIn K mainGlobals "list" = some none)
    (z_tuple : PySem.W.nsIn K mainGlobals "tuple" = some none)
    (z_len : PySem.W.nsIn K mainGlobals "len" = some none)
    (z_abs : PySem.W.nsIn K mainGlobals "abs" = some none)
    (z_int : PySem.W.nsIn K mainGlobals "int" = some none)
    (z_isinstance : PySem.W.nsIn K mainGlobals "isinstance" = some none)
    (z_bool : PySem.W.nsIn K mainGlobals "bool" = some none)
    (z_all : PySem.W.nsIn K mainGlobals "all" = some none)
    (z_max : PySem.W.nsIn K mainGlobals "max" = some none)
    (z_min : PySem.W.nsIn K mainGlobals "min" = some none)
    {t_SIZE : Tok} (y_SIZE : PySem.W.nsIn K mainGlobals "SIZE" = some (some (.int 8 t_SIZE)))
    (hB : ∀ φ : Fd, φ.Ok → ∃ φ', B_law ((List.replicate 13 none).set 1 (some .feed)) φ = .rt (.bl true) φ') :
    ∃ fd : FuncData, (∀ (s : Shared) (v : Value), BindsTo s fd ⟨[v], []⟩ [("script", v)]) ∧ ∀ base : Heap, K.In base → base.Ns mainGlobals mg → FnOk l.prog w K mg base (L2N.CX l.prog w) 6 fa fd ["script"] (spLaw K) := by
  have e := hfa.symm.trans (PySem.W.mg_of X G a30)
  cases e
  have m_sum := PySem.W.mg_none_of X G z_sum
  have m_zip := PySem.W.mg_none_of X G z_zip
  have m_range := PySem.W.mg_none_of X G z_range
  have m_sorted := PySem.W.mg_none_of X G z_sorted
  have m_list := PySem.W.mg_none_of X G z_list
  have m_tuple := PySem.W.mg_none_of X G z_tuple
  have m_len := PySem.W.mg_none_of X G z_len
  have m_abs := PySem.W.mg_none_of X G z_abs
  have m_int := PySem.W.mg_none_of X G z_int
  have m_isinstance := PySem.W.mg_none_of X G z_isinstance
  have m_bool := PySem.W.mg_none_of X G z_bool
  have m_all := PySem.W.mg_none_of X G z_all
  have m_max := PySem.W.mg_none_of X G z_max
  have m_min := PySem.W.mg_none_of X G z_min
  have g_SIZE : ∃ t, mg "SIZE" = some (.int 8 t) := ⟨t_SIZE, PySem.W.mg_of X G y_SIZE⟩
  have F0 := fun_mk (st := s_row_product) l0 c0 k0
  have b0 := F0.binds (ps := ["one", "other"]) fun _ _ _ _ _ _ us hl => match us, hl with | [_, _], _ => rfl
  have g0 := PySem.W.mg_of X G a0
  have F1 := fun_mk (st := s_row_less) l1 c1 k1
  have b1 := F1.binds (ps := ["one", "other"]) fun _ _ _ _ _ _ us hl => match us, hl with | [_, _], _ => rfl
  have g1 := PySem.W.mg_of X G a1
  have F2 := fun_mk (st := s_row_times) l2 c2 k2
  have b2 := F2.binds (ps := ["a", "row"]) fun _ _ _ _ _ _ us hl => match us, hl with | [_, _], _ => rfl
  have g2 := PySem.W.mg_of X G a2
  have F3 := fun_mk (st := s_even_roots) l3 c3 k3
  have b3 := F3.binds (ps := []) fun _ _ _ _ _ _ us hl => match us, hl with | [], _ => rfl
  have g3 := PySem.W.mg_of X G a3
  have F4 := fun_mk (st := s_odd_roots) l4 c4 k4
  have b4 := F4.binds (ps := []) fun _ _ _ _ _ _ us hl => match us, hl with | [], _ => rfl
  have g4 := PySem.W.mg_of X G a4
  have F5 := fun_mk (st := s_all_roots) l5 c5 k5
  have b5 := F5.binds (ps := []) fun _ _ _ _ _ _ us hl => match us, hl with | [], _ => rfl
  have g5 := PySem.W.mg_of X G a5
  have F6 := fun_mk (st := s_base_roots) l6 c6 k6
  have b6 := F6.binds (ps := []) fun _ _ _ _ _ _ us hl => match us, hl with | [], _ => rfl
  have g6 := PySem.W.mg_of X G a6
  have F7 := fun_mk (st := s_mirrored) l7 c7 k7
  have b7 := F7.binds (ps := ["root", "row"]) fun _ _ _ _ _ _ us hl => match us, hl with | [_, _], _ => rfl
  have g7 := PySem.W.mg_of X G a7
  have F8 := fun_mk (st := s_mirrored_by) l8 c8 k8
  have b8 := F8.binds (ps := ["roots", "row"]) fun _ _ _ _ _ _ us hl => match us, hl with | [_, _], _ => rfl
  have g8 := PySem.W.mg_of X G a8
  have F9 := fun_mk (st := s_one_mirror) l9 c9 k9
  have b9 := F9.binds (ps := ["roots", "root", "other"]) fun _ _ _ _ _ _ us hl => match us, hl with | [_, _, _], _ => rfl
  have g9 := PySem.W.mg_of X G a9
  have F10 := fun_mk (st := s_lead_root) l10 c10 k10
  have b10 := F10.binds (ps := ["root", "other"]) fun _ _ _ _ _ _ us hl => match us, hl with | [_, _], _ => rfl
  have g10 := PySem.W.mg_of X G a10
  have F11 := fun_mk (st := s_closed_by_mirrors) l11 c11 k11
  have b11 := F11.binds (ps := ["rows"]) fun _ _ _ _ _ _ us hl => match us, hl with | [_], _ => rfl
  have g11 := PySem.W.mg_of X G a11
  have F12 := fun_mk (st := s_round_of_mirrors) l12 c12 k12
  have b12 := F12.binds (ps := ["rows"]) fun _ _ _ _ _ _ us hl => match us, hl with | [_], _ => rfl
  have g12 := PySem.W.mg_of X G a12
  have F13 := fun_mk (st := s__law_feed) l13 c13 k13
  have b13 := F13.binds (ps := ["script"]) fun _ _ _ _ _ _ us hl => match us, hl with | [_], _ => rfl
  have g13 := PySem.W.mg_of X G a13
  have F14 := fun_mk (st := s__law_draw) l14 c14 k14
  have b14 := F14.binds (ps := ["feed", "many"]) fun _ _ _ _ _ _ us hl => match us, hl with | [_, _], _ => rfl
  have g14 := PySem.W.mg_of X G a14
  have F15 := fun_mk (st := s__law_whole) l15 c15 k15
  have b15 := F15.binds (ps := ["x"]) fun _ _ _ _ _ _ us hl => match us, hl with | [_], _ => rfl
  have g15 := PySem.W.mg_of X G a15
  have F16 := fun_mk (st := s__law_wholes) l16 c16 k16
  have b16 := F16.binds (ps := ["x", "n"]) fun _ _ _ _ _ _ us hl => match us, hl with | [_, _], _ => rfl
  have g16 := PySem.W.mg_of X G a16
  have F17 := fun_mk (st := s__law_roots) l17 c17 k17
  have b17 := F17.binds (ps := []) fun _ _ _ _ _ _ us hl => match us, hl with | [], _ => rfl
  have g17 := PySem.W.mg_of X G a17
  have F18 := fun_mk (st := s__law_product) l18 c18 k18
  have b18 := F18.binds (ps := ["one", "other"]) fun _ _ _ _ _ _ us hl => match us, hl with | [_, _], _ => rfl
  have g18 := PySem.W.mg_of X G a18
  have F19 := fun_mk (st := s__law_mirror) l19 c19 k19
  have b19 := F19.binds (ps := ["root", "row"]) fun _ _ _ _ _ _ us hl => match us, hl with | [_, _], _ => rfl
  have g19 := PySem.W.mg_of X G a19
  have F20 := fun_mk (st := s__law_close) l20 c20 k20
  have b20 := F20.binds (ps := ["rows"]) fun _ _ _ _ _ _ us hl => match us, hl with | [_], _ => rfl
  have g20 := PySem.W.mg_of X G a20
  have F21 := fun_mk (st := s__law_row) l21 c21 k21
  have b21 := F21.binds (ps := ["feed"]) fun _ _ _ _ _ _ us hl => match us, hl with | [_], _ => rfl
  have g21 := PySem.W.mg_of X G a21
  have F22 := fun_mk (st := s__law_lists_same) l22 c22 k22
  have b22 := F22.binds (ps := ["told", "due"]) fun _ _ _ _ _ _ us hl => match us, hl with | [_, _], _ => rfl
  have g22 := PySem.W.mg_of X G a22
  have F23 := fun_mk (st := s__law_some) l23 c23 k23
  have b23 := F23.binds (ps := ["feed", "roots"]) fun _ _ _ _ _ _ us hl => match us, hl with | [_, _], _ => rfl
  have g23 := PySem.W.mg_of X G a23
  have F24 := fun_mk (st := s__law_one) l24 c24 k24
  have b24 := F24.binds (ps := ["roots", "root", "other"]) fun _ _ _ _ _ _ us hl => match us, hl with | [_, _, _], _ => rfl
  have g24 := PySem.W.mg_of X G a24
  have F25 := fun_mk (st := s__law_lead) l25 c25 k25
  have b25 := F25.binds (ps := ["roots", "root", "other"]) fun _ _ _ _ _ _ us hl => match us, hl with | [_, _, _], _ => rfl
  have g25 := PySem.W.mg_of X G a25
  have F26 := fun_mk (st := s__law_round) l26 c26 k26
  have b26 := F26.binds (ps := ["roots", "rows"]) fun _ _ _ _ _ _ us hl => match us, hl with | [_, _], _ => rfl
  have g26 := PySem.W.mg_of X G a26
  have F27 := fun_mk (st := s__law_mirrored_right) l27 c27 k27
  have b27 := F27.binds (ps := ["feed", "roots", "rows"]) fun _ _ _ _ _ _ us hl => match us, hl with | [_, _, _], _ => rfl
  have g27 := PySem.W.mg_of X G a27
  have F28 := fun_mk (st := s__law_lead_right) l28 c28 k28
  have b28 := F28.binds (ps := ["roots", "root", "other"]) fun _ _ _ _ _ _ us hl => match us, hl with | [_, _, _], _ => rfl
  have g28 := PySem.W.mg_of X G a28
  have F29 := fun_mk (st := s__law_closed_right) l29 c29 k29
  have b29 := F29.binds (ps := ["feed", "roots", "rows"]) fun _ _ _ _ _ _ us hl => match us, hl with | [_, _, _], _ => rfl
  have g29 := PySem.W.mg_of X G a29
  have F30 := fun_mk (st := s_law) l30 c30 k30
  have b30 := F30.binds (ps := ["script"]) fun _ _ _ _ _ _ us hl => match us, hl with | [_], _ => rfl
  have g30 := PySem.W.mg_of X G a30
  refine ⟨PySem.W.fnOf "law" "law" (defArgs s_law) (defBody s_law) (defScope s_law) .none kV30 dc30 pm30 an30 cd30 ct30, fun s v => .of_eq rfl, fun base _ _ => ?_⟩
  have c_row_product : Cal l.prog w K mg base (fun _ => none) "row_product" 1 [true, true] .o F_row_product := cal_of g0 F0.kp b0 (ok_row_product F0 m_sum m_zip)
  have c_row_less : Cal l.prog w K mg base (fun _ => none) "row_less" 1 [true, true] .o F_row_less := cal_of g1 F1.kp b1 (ok_row_less F1 m_zip)
  have c_row_times : Cal l.prog w K mg base (fun _ => none) "row_times" 1 [true, true] .o F_row_times := cal_of g2 F2.kp b2 (ok_row_times F2)
  have c_even_roots : Cal l.prog w K mg base (fun _ => none) "even_roots" 1 [] .o F_even_roots := cal_of g3 F3.kp b3 (ok_even_roots F3 m_range g_SIZE)
  have c_odd_roots : Cal l.prog w K mg base (fun _ => none) "odd_roots" 1 [] .o F_odd_roots := cal_of g4 F4.kp b4 (ok_odd_roots F4 m_range m_sum g_SIZE)
  have c_all_roots : Cal l.prog w K mg base (fun _ => none) "all_roots" 2 [] .o F_all_roots := cal_of g5 F5.kp b5 (ok_all_roots F5 c_even_roots c_odd_roots m_sorted)
  have c_base_roots : Cal l.prog w K mg base (fun _ => none) "base_roots" 1 [] .o F_base_roots := cal_of g6 F6.kp b6 (ok_base_roots F6 m_range g_SIZE)
  have c_mirrored : Cal l.prog w K mg base (fun _ => none) "mirrored" 2 [true, true] .o F_mirrored := cal_of g7 F7.kp b7 (ok_mirrored F7 c_row_less c_row_times c_row_product)
  have c_mirrored_by : Cal l.prog w K mg base (fun _ => none) "mirrored_by" 3 [true, true] .o F_mirrored_by := cal_of g8 F8.kp b8 (ok_mirrored_by F8 c_mirrored m_list)
  have c_one_mirror : Cal l.prog w K mg base (fun _ => none) "one_mirror" 3 [true, true, true] .s F_one_mirror := cal_of g9 F9.kp b9 (ok_one_mirror F9 c_mirrored)
  have c_lead_root : Cal l.prog w K mg base (fun _ => none) "lead_root" 4 [true, true] .o F_lead_root := cal_of g10 F10.kp b10 (ok_lead_root F10 c_all_roots c_row_product c_one_mirror c_mirrored)
  have c_closed_by_mirrors : Cal l.prog w K mg base (fun _ => none) "closed_by_mirrors" 3 [true] .o F_closed_by_mirrors := cal_of g11 F11.kp b11 (ok_closed_by_mirrors F11 c_mirrored m_tuple m_list m_sorted)
  have c_round_of_mirrors : Cal l.prog w K mg base (fun _ => none) "round_of_mirrors" 4 [true] .s F_round_of_mirrors := cal_of g12 F12.kp b12 (ok_round_of_mirrors F12 c_base_roots c_mirrored_by)
  have c__law_draw : Cal l.prog w K mg base (fun _ => none) "_law_draw" 1 [false, false] .s F__law_draw := cal_of g14 F14.kp b14 (ok__law_draw F14 m_len m_abs m_int)
  have c__law_whole : Cal l.prog w K mg base (fun _ => none) "_law_whole" 1 [true] .o F__law_whole := cal_of g15 F15.kp b15 (ok__law_whole F15 m_isinstance m_int m_bool)
  have c__law_wholes : Cal l.prog w K mg base (fun _ => none) "_law_wholes" 2 [true, true] .o F__law_wholes := cal_of g16 F16.kp b16 (ok__law_wholes F16 c__law_whole m_isinstance m_list m_len m_all)
  have c__law_roots : Cal l.prog w K mg base (fun _ => none) "_law_roots" 1 [] .o F__law_roots := cal_of g17 F17.kp b17 (ok__law_roots F17 m_range m_int m_sorted)
  have c__law_product : Cal l.prog w K mg base (fun _ => none) "_law_product" 1 [true, true] .o F__law_product := cal_of g18 F18.kp b18 (ok__law_product F18 m_sum m_range)
  have c__law_mirror : Cal l.prog w K mg base (fun _ => none) "_law_mirror" 2 [true, true] .o F__law_mirror := cal_of g19 F19.kp b19 (ok__law_mirror F19 c__law_product m_range)
  have c__law_close : Cal l.prog w K mg base (fun _ => none) "_law_close" 3 [true] .o F__law_close := cal_of g20 F20.kp b20 (ok__law_close F20 c__law_mirror m_tuple m_list m_range m_len m_sorted)
  have c__law_row : Cal l.prog w K mg base (fun _ => none) "_law_row" 2 [false] .o F__law_row := cal_of g21 F21.kp b21 (ok__law_row F21 c__law_draw m_range m_int m_sum)
  have c__law_lists_same : Cal l.prog w K mg base (fun _ => none) "_law_lists_same" 3 [true, true] .o F__law_lists_same := cal_of g22 F22.kp b22 (ok__law_lists_same F22 c__law_wholes m_isinstance m_list m_len m_range)
  have c__law_some : Cal l.prog w K mg base (fun _ => none) "_law_some" 2 [false, true] .o F__law_some := cal_of g23 F23.kp b23 (ok__law_some F23 c__law_draw c__law_product m_range m_int m_len m_max m_min m_list)
  have c__law_one : Cal l.prog w K mg base (fun _ => none) "_law_one" 3 [true, true, true] .s F__law_one := cal_of g24 F24.kp b24 (ok__law_one F24 c__law_mirror m_range m_len m_int m_sorted)
  have c__law_lead : Cal l.prog w K mg base (fun _ => none) "_law_lead" 4 [true, true, true] .o F__law_lead := cal_of g25 F25.kp b25 (ok__law_lead F25 c__law_one c__law_mirror c__law_product)
  have c__law_round : Cal l.prog w K mg base (fun _ => none) "_law_round" 3 [true, true] .o F__law_round := cal_of g26 F26.kp b26 (ok__law_round F26 c__law_mirror m_tuple m_range m_int)
  have c__law_mirrored_right : Cal l.prog w K mg base (fun _ => none) "_law_mirrored_right" 4 [false, true, false] .o F__law_mirrored_right := cal_of g27 F27.kp b27 (ok__law_mirrored_right F27 c__law_row c__law_draw c_mirrored c__law_mirror c__law_wholes c__law_product c_mirrored_by m_list m_max m_abs)
  have c__law_lead_right : Cal l.prog w K mg base (fun _ => none) "_law_lead_right" 5 [true, false, false] .o F__law_lead_right := cal_of g28 F28.kp b28 (ok__law_lead_right F28 c__law_lead c_lead_root c__law_lists_same c__law_mirror m_list m_len)
  have c__law_closed_right : Cal l.prog w K mg base (fun _ => none) "_law_closed_right" 5 [false, true, true] .o F__law_closed_right := cal_of g29 F29.kp b29 (ok__law_closed_right F29 c__law_close c_closed_by_mirrors c__law_lists_same c__law_draw c__law_mirror c_round_of_mirrors c__law_whole c__law_round m_list m_tuple m_range m_len)
  exact ok_law (cls := (fun _ => none)) F30 F13 g13 b13 m_list c__law_roots c__law_some c__law_mirrored_right c__law_closed_right c__law_draw c__law_product c__law_lead_right c_round_of_mirrors c_closed_by_mirrors c_lead_root c_mirrored c_mirrored_by m_range m_len m_int hB
end Pf

set_option Elab.async false
set_option linter.all false
set_option maxRecDepth 100000
set_option maxHeartbeats 4000000
namespace Pf
open PySem PySem.Spec PyProof.Rows L2
theorem f_product {r s : List Int} (φ : Fd) (hr : ∀ x ∈ r, x.natAbs ≤ 1000000) (hl : r.length ≤ 1000) : F_row_product [row r, row s] φ = .ok (.int (dot r s)) φ := by
  refine run_ret (bin_ok (cb1_ok (lcm_ok (r.zip s) _ (fun p => D.int (p.1 * p.2)) (zip_rows (two_ok (v_ok rfl) (v_ok rfl))) (zip_len hl) fun p hp => ⟨_, rfl, bin_ok (v_ok rfl) (v_ok rfl) (gMul_ok' ?_)⟩) ?_) rfl (gDiv_ok (by decide) (by decide)))
  · have := hr p.1 (List.of_mem_zip hp).1
    omega
  · have : (r.zip s).map (fun p => D.int (p.1 * p.2)) = (List.zipWith (fun a b => a * b) r s).map D.int := by
      rw [← zip_map, List.map_map]; rfl
    rw [this]
    exact gSum_ints _
theorem f_times {a : Int} {r : List Int} (φ : Fd) (ha : a.natAbs ≤ 1000000) (hl : r.length ≤ 1000) : F_row_times [.int a, row r] φ = .ok (row (smul a r)) φ := by
  refine run_ret ?_
  rw [lcm_ok r D.int (fun x => D.int (a * x)) (seq_l (v_ok rfl)) (size_le (by omega)) fun x hx => ⟨_, rfl, bin_ok (v_ok rfl) (v_ok rfl) (gMul_ok' (by omega))⟩]
  unfold row smul
  rw [List.map_map]; rfl
theorem f_even (φ : Fd) : F_even_roots [] φ = .ok (rws EV) φ := by kernel_rfl
theorem f_odd (φ : Fd) : F_odd_roots [] φ = .ok (rws OD) φ := by kernel_rfl
theorem f_roots (φ : Fd) : F_all_roots [] φ = .ok (rws RT) φ := by
  refine run_ret (cb1_ok (bin_ok (call0_ok (f_even φ)) (call0_ok (f_odd φ)) (gAdd_l (by rw [List.length_map, List.length_map, eo_len]; decide))) ?_)
  have : (EV.map row ++ OD.map row) = (EV ++ OD).map row := (List.map_append ..).symm
  rw [this, emb_row.gSorted (by decide), RT_eo_sort]
  rfl
theorem draw_ok {ρ : En} {φ : Fd} {A : SX} {n : Int} (h : ρ[1]? = some (some .feed)) (hn : A ρ φ = .ok (.int n) φ) (h0 : 0 < n) (h1 : n < 1073741824) (ht : 0 ≤ φ.told) : eCall F__law_draw (aCons (eVar 1) (aCons A aNil)) ρ φ = .ok (.int (φ.draw n).1) (φ.draw n).2 := by
  refine call_ok (two_ok (v_ok h) hn) ?_
  show (if (0 < n ∧ n < 1073741824) ∧ 0 ≤ φ.told then O.ok (D.int (φ.draw n).1) (φ.draw n).2 else .bad) = _
  rw [if_pos ⟨⟨h0, h1⟩, ht⟩]
end Pf

set_option Elab.async false
set_option linter.all false
set_option maxRecDepth 100000
set_option maxHeartbeats 4000000
namespace Pf
open PySem PySem.Spec PyProof.Rows L2

/-! ## mirrors of mirrors -/
theorem less_lin {p q m : Int} : ∀ {x y g : List Int}, x.length = g.length → y.length = g.length → less (less y x m) g (p - m * q) = less (less y g p) (less x g q) m
  | [], [], [], _, _ => rfl
  | [], _ :: _, [], _, h => by cases h
  | [], _, _ :: _, h, _ => by cases h
  | _ :: _, _, [], h, _ => by cases h
  | _ :: _, [], _ :: _, _, h => by cases h
  | a :: x, b :: y, c :: g, h1, h2 => by
    have ih := less_lin (p := p) (q := q) (m := m) (Nat.succ.inj h1) (Nat.succ.inj h2)
    unfold less at ih ⊢
    simp only [List.zipWith_cons_cons]
    rw [ih]
    congr 1
    grind
theorem dot_less {g x y : List Int} {m : Int} (hg : Lat g) (hx : Lat x) (hy : Lat y) : dot g (less y x m) = dot g y - m * dot g x := by
  refine dot_of hg (hy.less m hx) ?_
  rw [mulS_less' m (by rw [hx.1, hy.1]), hg.dot hy, hg.dot hx]
  grind
theorem mir_less {g x y : List Int} {m : Int} (hg : g ∈ RT) (hx : Lat x) (hy : Lat y) : mir g (less y x m) = less (mir g y) (mir g x) m := by
  unfold mir
  rw [dot_less (RT_lat hg) hx hy, less_lin (by rw [hx.1, RT_l8 hg]) (by rw [hy.1, RT_l8 hg])]
/-- the mirror of a mirrored root -/
theorem mir_conj {g x y : List Int} (hg : g ∈ RT) (hx : x ∈ RT) (hy : Lat y) : mir (mir g x) y = mir g (mir x (mir g y)) := by
  have hgy := mir_lat hg hy
  have e : mir g (mir x (mir g y)) = less y (mir g x) (dot x (mir g y)) := by
    show mir g (less (mir g y) x (dot x (mir g y))) = _
    rw [mir_less hg (RT_lat hx) hgy, mir_mir hg hy]
  rw [e]
  show less y (mir g x) (dot (mir g x) y) = _
  congr 1
  rw [← dot_mir hg (mir_lat hg (RT_lat hx)) hy, mir_mir hg (RT_lat hx)]
theorem less_two : ∀ x : List Int, less x x 2 = neg x
  | [] => rfl
  | a :: x => by
    have ih := less_two x
    unfold less neg at ih ⊢
    simp only [List.zipWith_cons_cons, List.map_cons]
    rw [ih]
    congr 1
    show a - 2 * a = -1 * a
    omega
theorem mir_self {x : List Int} (hx : x ∈ RT) : mir x x = neg x := by
  unfold mir
  rw [dot_root hx, less_two]

/-! ## all that comes by mirrors -/
inductive Gen (rows : List (List Int)) : List Int → Prop
  | base {r : List Int} : r ∈ rows → Gen rows r
  | step {g x : List Int} : g ∈ rows → Gen rows x → Gen rows (mir g x)
theorem Gen.root {rows : List (List Int)} (hr : ∀ r ∈ rows, r ∈ RT) {x : List Int} (h : Gen rows x) : x ∈ RT := by
  induction h with
  | base h => exact hr _ h
  | step h _ ih => exact mir_RT (hr _ h) ih
/-- a list closed under the mirrors of the given is closed under all it holds -/
theorem closed_all {rows C : List (List Int)} (hr : ∀ r ∈ rows, r ∈ RT) (h1 : ∀ x ∈ C, x ∈ RT) (h2 : ∀ g ∈ rows, ∀ x ∈ C, mir g x ∈ C) {x : List Int} (h : Gen rows x) : ∀ y ∈ C, mir x y ∈ C := by
  induction h with
  | base h => exact h2 _ h
  | step hg hx ih =>
    intro y hy
    rw [mir_conj (hr _ hg) (hx.root hr) (RT_lat (h1 y hy))]
    exact h2 _ hg _ (ih _ (h2 _ hg _ hy))

/-! ## the walk in breadth -/
def put1 (m : List (List Int)) (x : List Int) : List (List Int) := if x ∈ m then m else m ++ [x]
def stp (st : List (List Int) × List (List Int)) (x : List Int) : List (List Int) × List (List Int) := if x ∈ st.1 then st else (st.1 ++ [x], st.2 ++ [x])
def stps (rows : List (List Int)) (st : List (List Int) × List (List Int)) (x : List Int) : List (List Int) × List (List Int) := rows.foldl (fun st g => stp st (mir g x)) st
def trn (rows met line : List (List Int)) : List (List Int) × List (List Int) := line.foldl (stps rows) (met, [])
def bfs (rows : List (List Int)) : Nat → List (List Int) × List (List Int) → List (List Int)
  | 0, st => st.1
  | n + 1, st => if st.2 = [] then st.1 else bfs rows n (trn rows st.1 st.2)
def uq (rows : List (List Int)) : List (List Int) := rows.foldl put1 []
/-- what a turn keeps: new ones are met and were not -/
structure BI (rows met : List (List Int)) (st : List (List Int) × List (List Int)) : Prop where
  sub : ∀ x ∈ met, x ∈ st.1
  mem : ∀ x, x ∈ st.1 ↔ x ∈ met ∨ x ∈ st.2
  gen : ∀ x ∈ st.1, Gen rows x
  nd : st.1.Nodup
  len : st.1.length = met.length + st.2.length
theorem BI.stp {rows met : List (List Int)} {st : List (List Int) × List (List Int)} (h : BI rows met st) {x : List Int} (hx : Gen rows x) : BI rows met (stp st x) ∧ x ∈ (Pf.stp st x).1 ∧ ∀ y ∈ st.1, y ∈ (Pf.stp st x).1 := by
  unfold Pf.stp
  by_cases hm : x ∈ st.1
  · rw [if_pos hm]; exact ⟨h, hm, fun y hy => hy⟩
  · rw [if_neg hm]
    refine ⟨⟨fun y hy => List.mem_append_left _ (h.sub y hy), fun y => ?_, fun y hy => ?_, ?_, ?_⟩, List.mem_append_right _ (List.mem_singleton.mpr rfl), fun y hy => List.mem_append_left _ hy⟩
    · simp only [List.mem_append, List.mem_singleton]
      rw [h.mem y]
      constructor
      · rintro ((a | a) | a)
        · exact .inl a
        · exact .inr (.inl a)
        · exact .inr (.inr a)
      · rintro (a | a | a)
        · exact .inl (.inl a)
        · exact .inl (.inr a)
        · exact .inr a
    · rcases List.mem_append.mp hy with a | a
      · exact h.gen y a
      · rw [List.mem_singleton.mp a]; exact hx
    · rw [List.nodup_append]
      exact ⟨h.nd, by simp, fun a ha b hb e => hm (by rw [← List.mem_singleton.mp hb, ← e]; exact ha)⟩
    · simp only [List.length_append, List.length_singleton, h.len]; omega
theorem BI.stps {rows met : List (List Int)} {x : List Int} (hx : Gen rows x) : ∀ {gs : List (List Int)} {st : List (List Int) × List (List Int)}, (∀ g ∈ gs, g ∈ rows) → BI rows met st →
    BI rows met (gs.foldl (fun st g => Pf.stp st (mir g x)) st) ∧ (∀ g ∈ gs, mir g x ∈ (gs.foldl (fun st g => Pf.stp st (mir g x)) st).1) ∧ ∀ y ∈ st.1, y ∈ (gs.foldl (fun st g => Pf.stp st (mir g x)) st).1
  | [], st, _, h => ⟨h, fun g hg => (by cases hg), fun y hy => hy⟩
  | g :: gs, st, hs, h => by
    obtain ⟨a1, a2, a3⟩ := h.stp (x := mir g x) (.step (hs g (List.mem_cons_self ..)) hx)
    obtain ⟨b1, b2, b3⟩ := BI.stps hx (gs := gs) (st := Pf.stp st (mir g x)) (fun k hk => hs k (List.mem_cons_of_mem _ hk)) a1
    refine ⟨b1, fun k hk => ?_, fun y hy => b3 y (a3 y hy)⟩
    rcases List.mem_cons.mp hk with rfl | hk
    · exact b3 _ a2
    · exact b2 k hk
theorem BI.trn {rows met : List (List Int)} : ∀ {line : List (List Int)} {st : List (List Int) × List (List Int)}, (∀ x ∈ line, Gen rows x) → BI rows met st →
    BI rows met (line.foldl (Pf.stps rows) st) ∧ (∀ x ∈ line, ∀ g ∈ rows, mir g x ∈ (line.foldl (Pf.stps rows) st).1) ∧ ∀ y ∈ st.1, y ∈ (line.foldl (Pf.stps rows) st).1
  | [], st, _, h => ⟨h, fun g hg => (by cases hg), fun y hy => hy⟩
  | x :: line, st, hl, h => by
    obtain ⟨a1, a2, a3⟩ := BI.stps (hl x (List.mem_cons_self ..)) (gs := rows) (fun g hg => hg) h
    obtain ⟨b1, b2, b3⟩ := BI.trn (line := line) (st := Pf.stps rows st x) (fun k hk => hl k (List.mem_cons_of_mem _ hk)) a1
    refine ⟨b1, fun y hy g hg => ?_, fun y hy => b3 y (a3 y hy)⟩
    rcases List.mem_cons.mp hy with rfl | hy
    · exact b3 _ (a2 g hg)
    · exact b2 y hy g hg
/-- the state between turns -/
structure BS (rows : List (List Int)) (st : List (List Int) × List (List Int)) : Prop where
  lin : ∀ x ∈ st.2, x ∈ st.1
  gen : ∀ x ∈ st.1, Gen rows x
  nd : st.1.Nodup
  cl : ∀ x ∈ st.1, x ∈ st.2 ∨ ∀ g ∈ rows, mir g x ∈ st.1
theorem BS.next {rows : List (List Int)} {st : List (List Int) × List (List Int)} (h : BS rows st) : BS rows (trn rows st.1 st.2) ∧ (trn rows st.1 st.2).1.length = st.1.length + (trn rows st.1 st.2).2.length ∧ ∀ x ∈ st.1, x ∈ (trn rows st.1 st.2).1 := by
  have b0 : BI rows st.1 (st.1, []) := ⟨fun x hx => hx, fun x => by simp, h.gen, h.nd, rfl⟩
  obtain ⟨a1, a2, a3⟩ := BI.trn (line := st.2) (st := (st.1, [])) (fun x hx => h.gen x (h.lin x hx)) b0
  refine ⟨⟨fun x hx => (a1.mem x).mpr (.inr hx), a1.gen, a1.nd, fun x hx => ?_⟩, a1.len, fun x hx => a3 x hx⟩
  rcases (a1.mem x).mp hx with q | q
  · refine .inr fun g hg => ?_
    rcases h.cl x q with c | c
    · exact a2 x c g hg
    · exact a3 _ (c g hg)
  · exact .inl q
theorem BS.le {rows : List (List Int)} (hr : ∀ r ∈ rows, r ∈ RT) {st : List (List Int) × List (List Int)} (h : BS rows st) : st.1.length ≤ 240 := by
  rw [← RT_len]
  exact sub_len h.nd fun x hx => (h.gen x hx).root hr
theorem bfs_end {rows : List (List Int)} {st : List (List Int) × List (List Int)} (h : BS rows st) (e : st.2 = []) (n : Nat) : BS rows (bfs rows n st, []) ∧ (∀ x ∈ st.1, x ∈ bfs rows n st) ∧ ∀ k, n ≤ k → bfs rows k st = bfs rows n st := by
  have e1 : ∀ n, bfs rows n st = st.1 := fun n => by
    cases n with
    | zero => rfl
    | succ n => unfold bfs; rw [if_pos e]
  rw [e1]
  refine ⟨⟨fun x hx => (by cases hx), h.gen, h.nd, fun x hx => .inr ?_⟩, fun x hx => hx, fun k _ => e1 k⟩
  rcases h.cl x hx with q | q
  · rw [e] at q; cases q
  · exact q
/-- enough turns: all is closed, and more turns change nothing -/
theorem bfs_ok {rows : List (List Int)} (hr : ∀ r ∈ rows, r ∈ RT) : ∀ (n : Nat) {st : List (List Int) × List (List Int)}, BS rows st → 241 ≤ n + st.1.length ∨ (st.2 = []) →
    BS rows (bfs rows n st, []) ∧ (∀ x ∈ st.1, x ∈ bfs rows n st) ∧ ∀ k, n ≤ k → bfs rows k st = bfs rows n st
  | 0, st, h, .inr e => bfs_end h e 0
  | n + 1, st, h, .inr e => bfs_end h e (n + 1)
  | 0, st, h, .inl q => by
    have := h.le hr
    omega
  | n + 1, st, h, .inl q => by
    by_cases e : st.2 = []
    · exact bfs_end h e (n + 1)
    · obtain ⟨a1, a2, a3⟩ := h.next
      have step : ∀ k, bfs rows (k + 1) st = bfs rows k (trn rows st.1 st.2) := fun k => by
        show (if st.2 = [] then st.1 else bfs rows k (trn rows st.1 st.2)) = _
        rw [if_neg e]
      have hn : 241 ≤ n + (trn rows st.1 st.2).1.length ∨ (trn rows st.1 st.2).2 = [] := by
        by_cases e2 : (trn rows st.1 st.2).2 = []
        · exact .inr e2
        · refine .inl ?_
          have := List.length_pos_iff.mpr e2
          omega
      obtain ⟨b1, b2, b3⟩ := bfs_ok hr n a1 hn
      rw [step]
      refine ⟨b1, fun x hx => b2 x (a3 x hx), fun k hk => ?_⟩
      obtain ⟨k', rfl⟩ : ∃ k', k = k' + 1 := ⟨k - 1, by omega⟩
      rw [step]
      exact b3 k' (by omega)
theorem put1_fold : ∀ (rows m : List (List Int)), m.Nodup → (rows.foldl put1 m).Nodup ∧ ∀ x, x ∈ rows.foldl put1 m ↔ x ∈ m ∨ x ∈ rows
  | [], m, h => ⟨h, fun x => by simp⟩
  | r :: rows, m, h => by
    have h1 : (put1 m r).Nodup ∧ ∀ x, x ∈ put1 m r ↔ x ∈ m ∨ x = r := by
      unfold put1
      by_cases hm : r ∈ m
      · rw [if_pos hm]
        exact ⟨h, fun x => ⟨.inl, fun q => q.elim id fun e => by rw [e]; exact hm⟩⟩
      · rw [if_neg hm]
        refine ⟨?_, fun x => by rw [List.mem_append, List.mem_singleton]⟩
        rw [List.nodup_append]
        exact ⟨h, by simp, fun a ha b hb e => hm (by rw [← List.mem_singleton.mp hb, ← e]; exact ha)⟩
    obtain ⟨a, b⟩ := put1_fold rows (put1 m r) h1.1
    refine ⟨a, fun x => ?_⟩
    rw [List.foldl_cons, b, h1.2, List.mem_cons, or_assoc]
theorem uq_ok (rows : List (List Int)) : (uq rows).Nodup ∧ ∀ x, x ∈ uq rows ↔ x ∈ rows := by
  obtain ⟨a, b⟩ := put1_fold rows [] List.nodup_nil
  exact ⟨a, fun x => (b x).trans (by simp)⟩
theorem uq_bs (rows : List (List Int)) : BS rows (uq rows, uq rows) :=
  ⟨fun x hx => hx, fun x hx => .base ((uq_ok rows).2 x |>.mp hx), (uq_ok rows).1, fun x hx => .inl hx⟩
/-- the closed list -/
def cls0 (rows : List (List Int)) : List (List Int) := bfs rows 240 (uq rows, uq rows)
def clo (rows : List (List Int)) : List (List Int) := (cls0 rows).mergeSort (leL ltR)
theorem cls0_ok {rows : List (List Int)} (hr : ∀ r ∈ rows, r ∈ RT) : BS rows (cls0 rows, []) ∧ ∀ k, 240 ≤ k → bfs rows k (uq rows, uq rows) = cls0 rows := by
  have h : 241 ≤ 240 + (uq rows, uq rows).1.length ∨ (uq rows, uq rows).2 = [] := by
    by_cases e : uq rows = []
    · exact .inr e
    · have := List.length_pos_iff.mpr e
      exact .inl (by show 241 ≤ 240 + (uq rows).length; omega)
  obtain ⟨a, b, c⟩ := bfs_ok hr 240 (uq_bs rows) h
  exact ⟨a, c⟩
theorem clo_mem {rows : List (List Int)} {x : List Int} : x ∈ clo rows ↔ x ∈ cls0 rows := (List.mergeSort_perm _ _).mem_iff
theorem clo_ok {rows : List (List Int)} (hr : ∀ r ∈ rows, r ∈ RT) : (∀ x ∈ clo rows, x ∈ RT) ∧ (∀ x ∈ clo rows, ∀ y ∈ clo rows, mir x y ∈ clo rows) ∧ ∀ x ∈ clo rows, neg x ∈ clo rows := by
  obtain ⟨h, _⟩ := cls0_ok hr
  have c1 : ∀ x ∈ cls0 rows, x ∈ RT := fun x hx => (h.gen x hx).root hr
  have c2 : ∀ g ∈ rows, ∀ x ∈ cls0 rows, mir g x ∈ cls0 rows := fun g hg x hx => by
    rcases h.cl x hx with q | q
    · cases q
    · exact q g hg
  have c3 : ∀ x ∈ clo rows, ∀ y ∈ clo rows, mir x y ∈ clo rows := fun x hx y hy => clo_mem.mpr (closed_all hr c1 c2 (h.gen x (clo_mem.mp hx)) y (clo_mem.mp hy))
  refine ⟨fun x hx => c1 x (clo_mem.mp hx), c3, fun x hx => ?_⟩
  have := c3 x hx x hx
  rw [mir_self (c1 x (clo_mem.mp hx))] at this
  exact this
theorem clo_len {rows : List (List Int)} (hr : ∀ r ∈ rows, r ∈ RT) : (clo rows).length ≤ 240 ∧ (cls0 rows).length ≤ 240 := by
  have := (cls0_ok hr).1.le hr
  refine ⟨?_, this⟩
  unfold clo
  rw [List.length_mergeSort]
  exact this
end Pf

set_option Elab.async false
set_option linter.all false
set_option maxRecDepth 100000
set_option maxHeartbeats 4000000
namespace Pf
open PySem PySem.Spec PyProof.Rows L2

/-! ## one mirror, two mirrors -/
theorem zero_eq : ∀ {x y : List Int}, x.length = y.length → mulS (less x y 1) (less x y 1) = 0 → x = y
  | [], [], _, _ => rfl
  | a :: x, b :: y, h, q => by
    have e : mulS ((a - 1 * b) :: less x y 1) ((a - 1 * b) :: less x y 1) = 0 := q
    rw [mulS_cons] at e
    have h1 := sq_nn (a - 1 * b)
    have h2 := mulS_nn (less x y 1)
    have h3 : (a - 1 * b) * (a - 1 * b) = 0 := by omega
    have h4 : mulS (less x y 1) (less x y 1) = 0 := by omega
    have h5 : a = b := by
      rcases Int.mul_eq_zero.mp h3 with z | z <;> omega
    rw [h5, zero_eq (Nat.succ.inj h) h4]
theorem eq_of_dot {x y : List Int} (hx : x ∈ RT) (hy : y ∈ RT) (h : dot x y = 2) : x = y := by
  have hl : x.length = y.length := by rw [RT_l8 hx, RT_l8 hy]
  refine zero_eq hl ?_
  rw [mulS_less 1 hl, mulS_less' 1 hl, mulS_less' 1 hl, RT_sq hx, RT_sq hy, mulS_comm y x, (RT_lat hx).dot (RT_lat hy), h]
  rfl
def leads (r o own : List Int) : Bool := decide (mir own r = o)
def one1 (r o : List Int) : Option (List Int) := RT.find? (leads r o)
theorem dot_led {r own : List Int} (hr : r ∈ RT) (ho : own ∈ RT) : dot r (mir own r) = 2 - dot own r * dot own r := by
  show dot r (less r own (dot own r)) = _
  rw [dot_less (RT_lat hr) (RT_lat ho) (RT_lat hr), dot_root hr, dot_comm r own]
theorem dot_cases {x y : List Int} (hx : x ∈ RT) (hy : y ∈ RT) : dot x y = -2 ∨ dot x y = -1 ∨ dot x y = 0 ∨ dot x y = 1 ∨ dot x y = 2 := by
  have := dot_bd hx hy
  omega
theorem led_iff {r o : List Int} (hr : r ∈ RT) (ho : o ∈ RT) (hne : r ≠ o) : (∃ own ∈ RT, mir own r = o) ↔ dot r o = 1 ∨ dot r o = -2 := by
  constructor
  · rintro ⟨own, h1, rfl⟩
    rw [dot_led hr h1]
    rcases dot_cases h1 hr with e | e | e | e | e <;> rw [e]
    · exact .inr rfl
    · exact .inl rfl
    · exfalso
      apply hne
      unfold mir
      rw [e, less_zero (by rw [RT_l8 hr, RT_l8 h1])]
    · exact .inl rfl
    · exact .inr rfl
  · rintro (e | e)
    · obtain ⟨h1, h2⟩ := diff_root hr ho (by rw [(RT_lat hr).dot (RT_lat ho), e]; rfl)
      exact ⟨_, h1, h2⟩
    · refine ⟨r, hr, ?_⟩
      rw [mir_self hr]
      have : dot (neg r) o = 2 := by
        refine dot_of (Lat.smul (-1) (RT_lat hr)) (RT_lat ho) ?_
        show mulS (smul (-1) r) o = _
        rw [mulS_smul, (RT_lat hr).dot (RT_lat ho), e]
        rfl
      have hn : neg r ∈ RT := by rw [← mir_self hr]; exact mir_RT hr hr
      exact eq_of_dot hn ho this
def isT (n : Int) : Bool := decide (n = 1 ∨ n = -2)
/-- two mirrors lead any root to any other -/
def Two (r o : List Int) : Prop := ∃ f ∈ RT, dot (mir f r) o = 1 ∨ dot (mir f r) o = -2
theorem Two.back {g r o : List Int} (hg : g ∈ RT) (hr : r ∈ RT) (ho : o ∈ RT) (h : Two (mir g r) (mir g o)) : Two r o := by
  obtain ⟨f, hf, q⟩ := h
  refine ⟨mir g f, mir_RT hg hf, ?_⟩
  have e : dot (mir (mir g f) r) o = dot (mir f (mir g r)) (mir g o) := by
    have h1 := mir_lat hf (mir_lat hg (RT_lat hr))
    rw [mir_conj hg hf (RT_lat hr), ← dot_mir hg (mir_lat hg h1) (RT_lat ho), mir_mir hg h1]
  rw [e]
  exact q
theorem two_b1 : RT.any (fun f => isT (dot (mir f r0) s0)) = true := by decide +kernel
theorem two_b2 : RT.any (fun f => isT (dot (mir f r0) b0)) = true := by decide +kernel
theorem two_of {r o : List Int} (h : RT.any (fun f => isT (dot (mir f r) o)) = true) : Two r o := by
  obtain ⟨f, hf, q⟩ := List.any_eq_true.mp h
  exact ⟨f, hf, of_decide_eq_true q⟩
theorem two_ex {r o : List Int} (hr : r ∈ RT) (ho : o ∈ RT) (hne : r ≠ o) (h1 : ¬ (dot r o = 1 ∨ dot r o = -2)) : Two r o := by
  have hd := (RT_lat hr).dot (RT_lat ho)
  rcases dot_cases hr ho with e | e | e | e | e
  · exact absurd (.inr e) h1
  · exact pair_ind (Q := Two) (two_of two_b1) (fun g hg r hr s hs h => h.back hg hr hs) r hr o ho (by rw [hd, e]; rfl)
  · exact opair_ind (Q := Two) (two_of two_b2) (fun g hg r hr s hs h => h.back hg hr hs) r hr o ho (by rw [hd, e]; rfl)
  · exact absurd (.inl e) h1
  · exact absurd (eq_of_dot hr ho e) hne
/-! ## the law's way to one mirror -/
def hlf (w : List Int) : List Int := w.map fun x => x.fdiv 2
def evB (w : List Int) : Bool := (w.filter fun x => decide (x.fmod 2 = 1)).isEmpty
def cand1 (w : List Int) : List (List Int) := (if w ∈ RT then [w] else []) ++ (if evB w = true ∧ hlf w ∈ RT then [hlf w] else [])
def cand (r o : List Int) : List (List Int) := [less r o 1, neg (less r o 1)].flatMap cand1
def lone (r o : List Int) : Option (List Int) := (((cand r o).mergeSort (leL ltR)).filter (leads r o)).head?
theorem cand1_mem {w x : List Int} : x ∈ cand1 w ↔ (x = w ∧ w ∈ RT) ∨ (x = hlf w ∧ evB w = true ∧ hlf w ∈ RT) := by
  unfold cand1
  rw [List.mem_append]
  by_cases h1 : w ∈ RT <;> by_cases h2 : evB w = true ∧ hlf w ∈ RT <;> simp [h1, h2]
theorem hlf_smul : ∀ x : List Int, hlf (smul 2 x) = x
  | [] => rfl
  | a :: x => by
    show (2 * a).fdiv 2 :: hlf (smul 2 x) = _
    rw [hlf_smul x]
    congr 1
    rw [Int.fdiv_eq_ediv_of_nonneg _ (by decide)]
    omega
theorem evB_smul : ∀ x : List Int, evB (smul 2 x) = true
  | [] => rfl
  | a :: x => by
    have ih := evB_smul x
    unfold evB smul at ih ⊢
    rw [List.map_cons, List.filter_cons_of_neg]
    · exact ih
    · rw [decide_eq_true_eq, Int.fmod_eq_emod_of_nonneg _ (by decide)]
      omega
theorem less_self {m : Int} : ∀ {x g : List Int}, x.length = g.length → less x (less x g m) 1 = smul m g
  | [], [], _ => rfl
  | a :: x, b :: g, h => by
    have ih := less_self (m := m) (Nat.succ.inj h)
    unfold less smul at ih ⊢
    simp only [List.zipWith_cons_cons, List.map_cons]
    rw [ih]
    congr 1
    omega
theorem smul_smul (a b : Int) : ∀ x : List Int, smul a (smul b x) = smul (a * b) x
  | [] => rfl
  | c :: x => by
    have ih := smul_smul a b x
    unfold smul at ih ⊢
    simp only [List.map_cons]
    rw [ih]
    congr 1
    exact (Int.mul_assoc a b c).symm
theorem smul_one : ∀ x : List Int, smul 1 x = x
  | [] => rfl
  | a :: x => by
    have ih := smul_one x
    unfold smul at ih ⊢
    rw [List.map_cons, ih, Int.one_mul]
theorem cand_all {r o own : List Int} (hr : r ∈ RT) (hne : r ≠ o) (h1 : own ∈ RT) (h : mir own r = o) : own ∈ cand r o := by
  subst h
  have hl : r.length = own.length := by rw [RT_l8 hr, RT_l8 h1]
  have e : less r (mir own r) 1 = smul (dot own r) own := less_self hl
  unfold cand
  rw [e]
  simp only [List.flatMap_cons, List.flatMap_nil, List.append_nil, List.mem_append, cand1_mem]
  unfold neg
  rw [smul_smul]
  rcases dot_cases h1 hr with q | q | q | q | q <;> rw [q]
  · right; right
    rw [show (-1 : Int) * (-2) = 2 by decide, hlf_smul, evB_smul]
    exact ⟨rfl, rfl, h1⟩
  · right; left
    rw [show (-1 : Int) * (-1) = 1 by decide, smul_one]
    exact ⟨rfl, h1⟩
  · exfalso
    apply hne
    unfold mir
    rw [q, less_zero hl]
  · left; left
    rw [smul_one]
    exact ⟨rfl, h1⟩
  · left; right
    rw [hlf_smul, evB_smul]
    exact ⟨rfl, rfl, h1⟩
theorem cand_RT {r o x : List Int} (h : x ∈ cand r o) : x ∈ RT := by
  obtain ⟨w, _, hw⟩ := List.mem_flatMap.mp h
  rcases cand1_mem.mp hw with ⟨rfl, q⟩ | ⟨rfl, _, q⟩ <;> exact q
theorem head_same {l m : List (List Int)} (h1 : l.Pairwise fun a b => leL ltR a b = true) (h2 : m.Pairwise fun a b => leL ltR a b = true) (h : ∀ x, x ∈ l ↔ x ∈ m) : l.head? = m.head? := by
  cases l with
  | nil =>
    cases m with
    | nil => rfl
    | cons b m => exact absurd ((h b).mpr (List.mem_cons_self ..)) (by simp)
  | cons a l =>
    cases m with
    | nil => exact absurd ((h a).mp (List.mem_cons_self ..)) (by simp)
    | cons b m =>
      show some a = some b
      have ha := (h a).mp (List.mem_cons_self ..)
      have hb := (h b).mpr (List.mem_cons_self ..)
      rcases List.mem_cons.mp ha with e | ha
      · rw [e]
      · rcases List.mem_cons.mp hb with e | hb
        · rw [e]
        · have p1 := (List.pairwise_cons.mp h1).1 b hb
          have p2 := (List.pairwise_cons.mp h2).1 a ha
          unfold leL at p1 p2
          have q1 : ltR b a = false := by simpa using p1
          have q2 : ltR a b = false := by simpa using p2
          exact congrArg some (tot_row.tri _ _ q2 q1)
theorem lone_eq {r o : List Int} (hr : r ∈ RT) (hne : r ≠ o) : lone r o = one1 r o := by
  unfold lone one1
  rw [← List.head?_filter]
  refine head_same ((sort_pw tot_row _).filter _) ((lt_le tot_row RT_lt).filter _) fun x => ?_
  rw [List.mem_filter, List.mem_filter, (List.mergeSort_perm _ _).mem_iff]
  constructor
  · rintro ⟨a, b⟩; exact ⟨cand_RT a, b⟩
  · rintro ⟨a, b⟩; exact ⟨cand_all hr hne a (of_decide_eq_true b), b⟩
theorem one1_some {r o own : List Int} (h : one1 r o = some own) : own ∈ RT ∧ mir own r = o := by
  unfold one1 at h
  have q : leads r o own = true := List.find?_some h
  exact ⟨List.mem_of_find?_eq_some h, of_decide_eq_true q⟩
theorem one1_iff {r o : List Int} (hr : r ∈ RT) (ho : o ∈ RT) (hne : r ≠ o) : (one1 r o).isSome = isT (dot r o) := by
  unfold one1 isT
  rw [Bool.eq_iff_iff, List.find?_isSome, decide_eq_true_eq, ← led_iff hr ho hne]
  constructor
  · rintro ⟨x, a, b⟩; exact ⟨x, a, of_decide_eq_true b⟩
  · rintro ⟨x, a, b⟩; exact ⟨x, a, decide_eq_true b⟩
end Pf

set_option Elab.async false
set_option linter.all false
set_option maxRecDepth 100000
set_option maxHeartbeats 4000000
namespace Pf
open PySem PySem.Spec PyProof.Rows L2

/-! ## mirrors one after the other; rounds -/
def mby (gs : List (List Int)) (x : List Int) : List Int := gs.foldl (fun h g => mir g h) x
theorem mby_lat {gs : List (List Int)} : ∀ {x : List Int}, (∀ g ∈ gs, g ∈ RT) → Lat x → Lat (mby gs x) := by
  induction gs with
  | nil => intro x _ h; exact h
  | cons g gs ih => intro x hg h; exact ih (fun k hk => hg k (List.mem_cons_of_mem _ hk)) (mir_lat (hg g (List.mem_cons_self ..)) h)
theorem mby_RT {gs : List (List Int)} : ∀ {x : List Int}, (∀ g ∈ gs, g ∈ RT) → x ∈ RT → mby gs x ∈ RT := by
  induction gs with
  | nil => intro x _ h; exact h
  | cons g gs ih => intro x hg h; exact ih (fun k hk => hg k (List.mem_cons_of_mem _ hk)) (mir_RT (hg g (List.mem_cons_self ..)) h)
theorem mby_mul {gs : List (List Int)} : ∀ {x y : List Int}, (∀ g ∈ gs, g ∈ RT) → Lat x → Lat y → mulS (mby gs x) (mby gs y) = mulS x y := by
  induction gs with
  | nil => intro x y _ _ _; rfl
  | cons g gs ih =>
    intro x y hg hx hy
    have h1 := hg g (List.mem_cons_self ..)
    show mulS (mby gs (mir g x)) (mby gs (mir g y)) = _
    rw [ih (fun k hk => hg k (List.mem_cons_of_mem _ hk)) (mir_lat h1 hx) (mir_lat h1 hy), mulS_mir h1 hx hy]
theorem mby_inj {gs : List (List Int)} : ∀ {x y : List Int}, (∀ g ∈ gs, g ∈ RT) → Lat x → Lat y → mby gs x = mby gs y → x = y := by
  induction gs with
  | nil => intro x y _ _ _ h; exact h
  | cons g gs ih =>
    intro x y hg hx hy h
    have h1 := hg g (List.mem_cons_self ..)
    have := ih (fun k hk => hg k (List.mem_cons_of_mem _ hk)) (mir_lat h1 hx) (mir_lat h1 hy) h
    rw [← mir_mir h1 hx, this, mir_mir h1 hy]
def itr (f : List Int → List Int) : Nat → List Int → List Int
  | 0, x => x
  | n + 1, x => f (itr f n x)
theorem itr_add (f : List Int → List Int) (n : Nat) : ∀ (m : Nat) (x : List Int), itr f (m + n) x = itr f m (itr f n x)
  | 0, x => by rw [Nat.zero_add]; rfl
  | m + 1, x => by
    rw [Nat.add_right_comm]
    show f (itr f (m + n) x) = _
    rw [itr_add f n m x]
    rfl
theorem itr_mul (f : List Int → List Int) {p : Nat} {x : List Int} (h : itr f p x = x) : ∀ k, itr f (k * p) x = x
  | 0 => by rw [Nat.zero_mul]; rfl
  | k + 1 => by rw [Nat.succ_mul, itr_add, h, itr_mul f h k]
/-- a map of the roots onto themselves that keeps their products -/
structure Orth (f : List Int → List Int) : Prop where
  rt : ∀ x ∈ RT, f x ∈ RT
  inj : ∀ x ∈ RT, ∀ y ∈ RT, f x = f y → x = y
  mul : ∀ x ∈ RT, ∀ y ∈ RT, mulS (f x) (f y) = mulS x y
theorem mby_orth {gs : List (List Int)} (h : ∀ g ∈ gs, g ∈ RT) : Orth (mby gs) :=
  ⟨fun x hx => mby_RT h hx, fun x hx y hy e => mby_inj h (RT_lat hx) (RT_lat hy) e, fun x hx y hy => mby_mul h (RT_lat hx) (RT_lat hy)⟩
section
variable {f : List Int → List Int} (F : Orth f)
include F
theorem Orth.itr : ∀ n, Orth (itr f n)
  | 0 => ⟨fun x h => h, fun x _ y _ e => e, fun x _ y _ => rfl⟩
  | n + 1 => by
    have I := Orth.itr n
    refine ⟨fun x h => F.rt _ (I.rt x h), fun x hx y hy e => I.inj x hx y hy (F.inj _ (I.rt x hx) _ (I.rt y hy) e), fun x hx y hy => ?_⟩
    show mulS (f (Pf.itr f n x)) (f (Pf.itr f n y)) = _
    rw [F.mul _ (I.rt x hx) _ (I.rt y hy), I.mul x hx y hy]
theorem Orth.back {x : List Int} (hx : x ∈ RT) {i j : Nat} (hij : i ≤ j) (e : Pf.itr f i x = Pf.itr f j x) : Pf.itr f (j - i) x = x := by
  have h1 : Pf.itr f j x = Pf.itr f i (Pf.itr f (j - i) x) := by rw [← itr_add]; congr 1; omega
  exact ((F.itr i).inj _ hx _ ((F.itr _).rt x hx) (e.trans h1)).symm
/-- all come back within 240 steps -/
theorem Orth.per {x : List Int} (hx : x ∈ RT) : ∃ p, 1 ≤ p ∧ p ≤ 240 ∧ Pf.itr f p x = x := by
  by_cases h : ((List.range 241).map fun k => Pf.itr f k x).Nodup
  · have := sub_len h (m := RT) fun y hy => by
      obtain ⟨k, _, rfl⟩ := List.mem_map.mp hy
      exact (F.itr k).rt x hx
    rw [List.length_map, List.length_range, RT_len] at this
    omega
  · have : ∃ i j, i < j ∧ j < 241 ∧ Pf.itr f i x = Pf.itr f j x := by
      rw [List.Nodup, List.pairwise_iff_getElem] at h
      false_or_by_contra
      rename_i hn
      apply h
      intro i j hi hj hij
      rw [List.length_map, List.length_range] at hi hj
      simp only [List.getElem_map, List.getElem_range]
      exact fun e => hn ⟨i, j, hij, hj, e⟩
    obtain ⟨i, j, h1, h2, h3⟩ := this
    exact ⟨j - i, by omega, by omega, F.back hx (by omega) h3⟩
theorem least_ex {P : Nat → Prop} : ∀ n, P n → ∃ m, m ≤ n ∧ P m ∧ ∀ k, k < m → ¬ P k := by
  intro n
  induction n using Nat.strongRecOn with
  | _ n ih =>
    intro h
    by_cases q : ∃ k, k < n ∧ P k
    · obtain ⟨k, h1, h2⟩ := q
      obtain ⟨m, a, b, c⟩ := ih k h1 h2
      exact ⟨m, by omega, b, c⟩
    · exact ⟨n, Nat.le_refl _, h, fun k hk hp => q ⟨k, hk, hp⟩⟩
/-- the least number of steps -/
theorem Orth.least {x : List Int} (hx : x ∈ RT) : ∃ p, 1 ≤ p ∧ p ≤ 240 ∧ Pf.itr f p x = x ∧ ∀ k, 1 ≤ k → k < p → Pf.itr f k x ≠ x := by
  obtain ⟨p, h1, h2, h3⟩ := F.per hx
  obtain ⟨m, a, ⟨b, c⟩, d⟩ := least_ex F (P := fun k => 1 ≤ k ∧ Pf.itr f k x = x) p ⟨h1, h3⟩
  exact ⟨m, b, by omega, c, fun k hk hkm e => d k hkm ⟨hk, e⟩⟩
theorem Orth.dvd {x : List Int} (hx : x ∈ RT) {p T : Nat} (hp : 1 ≤ p) (h1 : Pf.itr f p x = x) (h2 : ∀ k, 1 ≤ k → k < p → Pf.itr f k x ≠ x) (hT : Pf.itr f T x = x) : p ∣ T := by
  have e : Pf.itr f (T % p) x = x := by
    have := Nat.div_add_mod' T p
    rw [← this, Nat.add_comm, itr_add, itr_mul f h1] at hT
    exact hT
  rcases Nat.eq_zero_or_pos (T % p) with z | z
  · exact Nat.dvd_of_mod_eq_zero z
  · exact absurd e (h2 _ z (Nat.mod_lt _ hp))
end
/-! ### the base roots tell a root -/
def BR : List (List Int) := [1, -1, -1, -1, -1, -1, -1, 1] :: [2, 2, 0, 0, 0, 0, 0, 0] :: (List.range 6).map fun i => ((List.replicate 8 (0 : Int)).set i (-2)).set (i + 1) 2
theorem BR_in : BR.all (fun x => RT.contains x) = true := by decide +kernel
theorem BR_RT : ∀ x ∈ BR, x ∈ RT := fun x hx => List.contains_iff_mem.mp (List.all_eq_true.mp BR_in x hx)
def tell (x : List Int) : List Int := BR.map (mulS x)
theorem tell_inj {x y : List Int} (hx : x ∈ RT) (hy : y ∈ RT) (h : tell x = tell y) : x = y := by
  have h1 := RT_l8 hx
  have h2 := RT_l8 hy
  match x, h1, y, h2 with
  | [a, b, c, d, e, f, g, i], _, [a', b', c', d', e', f', g', i'], _ =>
    have q : tell [a, b, c, d, e, f, g, i] = tell [a', b', c', d', e', f', g', i'] := h
    unfold tell BR mulS at q
    simp [List.range_succ] at q
    obtain ⟨q1, q2, q3, q4, q5, q6, q7, q8⟩ := q
    have : a = a' ∧ b = b' ∧ c = c' ∧ d = d' ∧ e = e' ∧ f = f' ∧ g = g' ∧ i = i' := by omega
    obtain ⟨rfl, rfl, rfl, rfl, rfl, rfl, rfl, rfl⟩ := this
    rfl
theorem Orth.fix {f : List Int → List Int} (F : Orth f) (h : ∀ b ∈ BR, f b = b) {x : List Int} (hx : x ∈ RT) : f x = x := by
  refine tell_inj (F.rt x hx) hx (List.map_congr_left fun b hb => ?_)
  have := F.mul x hx b (BR_RT b hb)
  rw [h b hb] at this
  exact this
/-- a number of steps that brings all back -/
theorem Orth.all {f : List Int → List Int} (F : Orth f) : ∃ T, 1 ≤ T ∧ T ≤ 240 ^ 8 ∧ ∀ x ∈ RT, Pf.itr f T x = x := by
  have : ∀ B : List (List Int), (∀ b ∈ B, b ∈ RT) → ∃ T, 1 ≤ T ∧ T ≤ 240 ^ B.length ∧ ∀ b ∈ B, Pf.itr f T b = b := by
    intro B
    induction B with
    | nil => intro _; exact ⟨1, Nat.le_refl _, Nat.le_refl _, fun b hb => by cases hb⟩
    | cons b B ih =>
      intro h
      obtain ⟨T, h1, h2, h3⟩ := ih fun c hc => h c (List.mem_cons_of_mem _ hc)
      obtain ⟨p, q1, q2, q3⟩ := F.per (h b (List.mem_cons_self ..))
      refine ⟨T * p, Nat.mul_pos h1 q1, ?_, fun c hc => ?_⟩
      · rw [List.length_cons, Nat.pow_succ]
        exact Nat.mul_le_mul h2 q2
      · rcases List.mem_cons.mp hc with rfl | hc
        · exact itr_mul f q3 T
        · rw [Nat.mul_comm]; exact itr_mul f (h3 c hc) p
  obtain ⟨T, h1, h2, h3⟩ := this BR BR_RT
  exact ⟨T, h1, h2, fun x hx => (F.itr T).fix h3 hx⟩
end Pf

set_option Elab.async false
set_option linter.all false
set_option maxRecDepth 100000
set_option maxHeartbeats 4000000
namespace Pf
open PySem PySem.Spec PyProof.Rows L2

/-! ## the law's rounds -/
abbrev Wk := List (List Int) × Nat × List Int
def wk1 (f : List Int → List Int) (st : Wk) : Wk := if st.2.2 ∈ st.1 then st else (st.1 ++ [st.2.2], st.2.1 + 1, f st.2.2)
def wks (f : List Int → List Int) : Nat → Wk → Wk
  | 0, st => st
  | n + 1, st => wk1 f (wks f n st)
theorem wk_run {f : List Int → List Int} (F : Orth f) {met : List (List Int)} (hm : ∀ y ∈ met, f y ∈ met) {x : List Int} (hx : x ∈ RT) (hn : x ∉ met) {p : Nat} (hp : 1 ≤ p) (h1 : itr f p x = x) (h2 : ∀ k, 1 ≤ k → k < p → itr f k x ≠ x) :
    ∀ k, k ≤ p → wks f k (met, 0, x) = (met ++ (List.range k).map (fun j => itr f j x), k, itr f k x)
  | 0, _ => by rw [List.range_zero, List.map_nil, List.append_nil]; rfl
  | k + 1, hk => by
    show wk1 f (wks f k (met, 0, x)) = _
    rw [wk_run F hm hx hn hp h1 h2 k (by omega)]
    have cl : ∀ m y, y ∈ met → itr f m y ∈ met := fun m => by
      induction m with
      | zero => intro y hy; exact hy
      | succ m ih => intro y hy; exact hm _ (ih y hy)
    have no : itr f k x ∉ met ++ (List.range k).map (fun j => itr f j x) := by
      intro h
      rcases List.mem_append.mp h with h | h
      · have := cl (p - k) _ h
        rw [← itr_add, show p - k + k = p by omega, h1] at this
        exact hn this
      · obtain ⟨j, hj, e⟩ := List.mem_map.mp h
        have hj' := List.mem_range.mp hj
        exact h2 (k - j) (by omega) (by omega) (F.back hx (by omega) e)
    unfold wk1
    rw [if_neg no, List.range_succ, List.map_append, List.append_assoc]
    rfl
theorem wk_end {f : List Int → List Int} (F : Orth f) {met : List (List Int)} (hm : ∀ y ∈ met, f y ∈ met) {x : List Int} (hx : x ∈ RT) (hn : x ∉ met) : ∃ p, 1 ≤ p ∧ p ≤ 240 ∧ itr f p x = x ∧ (∀ k, 1 ≤ k → k < p → itr f k x ≠ x) ∧
    wks f 240 (met, 0, x) = (met ++ (List.range p).map (fun j => itr f j x), p, x) := by
  obtain ⟨p, h1, h2, h3, h4⟩ := F.least hx
  refine ⟨p, h1, h2, h3, h4, ?_⟩
  have e := wk_run F hm hx hn h1 h3 h4 p (Nat.le_refl _)
  rw [h3] at e
  have st : wk1 f (met ++ (List.range p).map (fun j => itr f j x), p, x) = (met ++ (List.range p).map (fun j => itr f j x), p, x) := by
    unfold wk1
    rw [if_pos]
    exact List.mem_append_right _ (List.mem_map.mpr ⟨0, List.mem_range.mpr h1, rfl⟩)
  have more : ∀ k, wks f (p + k) (met, 0, x) = (met ++ (List.range p).map (fun j => itr f j x), p, x) := fun k => by
    induction k with
    | zero => exact e
    | succ k ih =>
      show wk1 f (wks f (p + k) (met, 0, x)) = _
      rw [ih, st]
  have := more (240 - p)
  rw [show p + (240 - p) = 240 by omega] at this
  exact this
def gs1 (st : Nat × Nat) : Nat × Nat := if 0 < st.2 then (st.2, st.1 % st.2) else st
def gss : Nat → Nat × Nat → Nat × Nat
  | 0, st => st
  | n + 1, st => gss n (gs1 st)
theorem gss_zero (a : Nat) : ∀ n, gss n (a, 0) = (a, 0)
  | 0 => rfl
  | n + 1 => by
    show gss n (gs1 (a, 0)) = _
    exact gss_zero a n
theorem gss_ok : ∀ (k a b n : Nat), b < 2 ^ k → 2 * k ≤ n → gss n (a, b) = (Nat.gcd a b, 0)
  | 0, a, b, n, hb, _ => by
    have : b = 0 := by simpa using hb
    subst this
    rw [gss_zero, Nat.gcd_zero_right]
  | k + 1, a, b, n, hb, hn => by
    rcases Nat.eq_zero_or_pos b with z | z
    · subst z; rw [gss_zero, Nat.gcd_zero_right]
    · obtain ⟨m, rfl⟩ : ∃ m, n = m + 2 := ⟨n - 2, by omega⟩
      have e1 : gss (m + 2) (a, b) = gss (m + 1) (b, a % b) := by
        show gss (m + 1) (gs1 (a, b)) = _
        unfold gs1
        rw [if_pos z]
      have hr := Nat.mod_lt a z
      have g1 : Nat.gcd a b = Nat.gcd b (a % b) := by rw [Nat.gcd_comm, Nat.gcd_rec, Nat.gcd_comm]
      rw [e1, g1]
      generalize a % b = r at hr
      rcases Nat.eq_zero_or_pos r with y | y
      · subst y; rw [gss_zero, Nat.gcd_zero_right]
      · have e2 : gss (m + 1) (b, r) = gss m (r, b % r) := by
          show gss m (gs1 (b, r)) = _
          unfold gs1
          rw [if_pos y]
        have g2 : Nat.gcd b r = Nat.gcd r (b % r) := by rw [Nat.gcd_comm, Nat.gcd_rec, Nat.gcd_comm]
        rw [e2, g2]
        refine gss_ok k r (b % r) m ?_ (by omega)
        have h1 := Nat.mod_lt b y
        have h2 : b % r + r ≤ b := by
          have h3 := Nat.div_add_mod b r
          have h4 : 1 ≤ b / r := Nat.div_pos (by omega) y
          have h5 : r * 1 ≤ r * (b / r) := Nat.mul_le_mul_left r h4
          omega
        rw [Nat.pow_succ] at hb
        omega
/-- number and size, led together -/
def nxt (n s : Nat) : Nat := n * s / (gss 20 (n, s)).1
theorem nxt_lcm {n s : Nat} (hs : s ≤ 240) : nxt n s = Nat.lcm n s := by
  unfold nxt
  rw [gss_ok 8 n s 20 (by omega) (by decide)]
  rfl
def rd1 (f : List Int → List Int) (st : List (List Int) × Nat) (x : List Int) : List (List Int) × Nat :=
  if x ∈ st.1 then st else ((wks f 240 (st.1, 0, x)).1, nxt st.2 (wks f 240 (st.1, 0, x)).2.1)
structure RI10 (f : List Int → List Int) (st : List (List Int) × Nat) : Prop where
  rt : ∀ y ∈ st.1, y ∈ RT
  cl : ∀ y ∈ st.1, f y ∈ st.1
  one : 1 ≤ st.2
  fix : ∀ y ∈ st.1, itr f st.2 y = y
  dv : ∀ T, (∀ x ∈ RT, itr f T x = x) → st.2 ∣ T
theorem RI10.step {f : List Int → List Int} (F : Orth f) {st : List (List Int) × Nat} (h : RI10 f st) {x : List Int} (hx : x ∈ RT) : RI10 f (rd1 f st x) ∧ x ∈ (rd1 f st x).1 ∧ ∀ y ∈ st.1, y ∈ (rd1 f st x).1 := by
  unfold rd1
  by_cases hm : x ∈ st.1
  · rw [if_pos hm]; exact ⟨h, hm, fun y hy => hy⟩
  · rw [if_neg hm]
    obtain ⟨p, h1, h2, h3, h4, e⟩ := wk_end F h.cl hx hm
    rw [e]
    show RI10 f (st.1 ++ (List.range p).map (fun j => itr f j x), nxt st.2 p) ∧ _
    rw [nxt_lcm h2]
    refine ⟨⟨fun y hy => ?_, fun y hy => ?_, Nat.lcm_pos h.one h1, fun y hy => ?_, fun T hT => Nat.lcm_dvd (h.dv T hT) (F.dvd hx h1 h3 h4 (hT x hx))⟩, List.mem_append_right _ (List.mem_map.mpr ⟨0, List.mem_range.mpr h1, rfl⟩), fun y hy => List.mem_append_left _ hy⟩
    · rcases List.mem_append.mp hy with q | q
      · exact h.rt y q
      · obtain ⟨j, _, rfl⟩ := List.mem_map.mp q
        exact (F.itr j).rt x hx
    · rcases List.mem_append.mp hy with q | q
      · exact List.mem_append_left _ (h.cl y q)
      · obtain ⟨j, hj, rfl⟩ := List.mem_map.mp q
        refine List.mem_append_right _ (List.mem_map.mpr ?_)
        have hj' := List.mem_range.mp hj
        by_cases hl : j + 1 < p
        · exact ⟨j + 1, List.mem_range.mpr hl, rfl⟩
        · refine ⟨0, List.mem_range.mpr h1, ?_⟩
          have : j + 1 = p := by omega
          show x = itr f (j + 1) x
          rw [this, h3]
    · obtain ⟨k, hk⟩ := Nat.dvd_lcm_left st.2 p
      obtain ⟨l, hl⟩ := Nat.dvd_lcm_right st.2 p
      rcases List.mem_append.mp hy with q | q
      · show itr f (Nat.lcm st.2 p) y = y
        rw [hk, Nat.mul_comm]
        exact itr_mul f (h.fix y q) k
      · obtain ⟨j, _, rfl⟩ := List.mem_map.mp q
        show itr f (Nat.lcm st.2 p) (itr f j x) = itr f j x
        rw [← itr_add, Nat.add_comm, itr_add, hl, Nat.mul_comm, itr_mul f h3 l]
theorem RI10.all {f : List Int → List Int} (F : Orth f) : ∀ (xs : List (List Int)) {st : List (List Int) × Nat}, RI10 f st → (∀ x ∈ xs, x ∈ RT) → RI10 f (xs.foldl (rd1 f) st) ∧ (∀ x ∈ xs, x ∈ (xs.foldl (rd1 f) st).1) ∧ ∀ y ∈ st.1, y ∈ (xs.foldl (rd1 f) st).1
  | [], st, h, _ => ⟨h, fun x hx => (by cases hx), fun y hy => hy⟩
  | x :: xs, st, h, hx => by
    obtain ⟨a1, a2, a3⟩ := h.step F (hx x (List.mem_cons_self ..))
    obtain ⟨b1, b2, b3⟩ := RI10.all F xs a1 fun y hy => hx y (List.mem_cons_of_mem _ hy)
    refine ⟨b1, fun y hy => ?_, fun y hy => b3 y (a3 y hy)⟩
    rcases List.mem_cons.mp hy with rfl | hy
    · exact b3 _ a2
    · exact b2 y hy
/-- the law's number -/
def rnd (f : List Int → List Int) : Nat := (RT.foldl (rd1 f) ([], 1)).2
theorem rd_init (f : List Int → List Int) : RI10 f ([], 1) :=
  ⟨fun y hy => (by cases hy), fun y hy => (by cases hy), Nat.le_refl _, fun y hy => (by cases hy), fun T _ => Nat.one_dvd T⟩
theorem rnd_ok {f : List Int → List Int} (F : Orth f) : 1 ≤ rnd f ∧ rnd f ≤ 240 ^ 8 ∧ BR.map (itr f (rnd f)) = BR ∧ ∀ t, 1 ≤ t → t < rnd f → BR.map (itr f t) ≠ BR := by
  obtain ⟨h, h1, _⟩ := RI10.all F RT (rd_init f) fun x hx => hx
  obtain ⟨T, t1, t2, t3⟩ := F.all
  refine ⟨h.one, Nat.le_trans (Nat.le_of_dvd t1 (h.dv T t3)) t2, ?_, fun t h2 h3 e => ?_⟩
  · refine (List.map_congr_left fun b hb => ?_).trans (List.map_id BR)
    exact h.fix b (h1 b (BR_RT b hb))
  · have : ∀ b ∈ BR, itr f t b = b := fun b hb => by
      have e' : BR.map (itr f t) = BR.map id := by rw [e, List.map_id]
      exact List.map_inj_left.mp e' b hb
    have := Nat.le_of_dvd h2 (h.dv t fun x hx => (F.itr t).fix this hx)
    have h3' : t < (RT.foldl (rd1 f) ([], 1)).2 := h3
    omega
/-- every number on the way is small -/
theorem rd_small {f : List Int → List Int} (F : Orth f) {st : List (List Int) × Nat} (h : RI10 f st) : st.2 ≤ 240 ^ 8 := by
  obtain ⟨T, t1, t2, t3⟩ := F.all
  exact Nat.le_trans (Nat.le_of_dvd t1 (h.dv T t3)) t2
end Pf

set_option Elab.async false
set_option linter.all false
set_option maxRecDepth 100000
set_option maxHeartbeats 4000000
namespace Pf
open PySem PySem.Spec PyProof.Rows L2

/-! ## dicts whose keys are rows, as tuples -/
def tp (x : List Int) : D := .tup (x.map .int)
def dm (f : List Int → D) (l : List (List Int)) : List (List Key × D) := l.map fun x => (keyL x, f x)
theorem keyL_inj {x y : List Int} (h : keyL x = keyL y) : x = y := by
  unfold keyL at h
  exact (List.map_inj_right (fun a b e => Sum.inl.inj e)).mp h
theorem keysD_ints : ∀ x : List Int, keysD (x.map D.int) = some (keyL x)
  | [] => rfl
  | a :: x => by
    show ((keyD (.int a)).bind fun k => (keysD (x.map D.int)).map fun ks => k :: ks) = _
    rw [keysD_ints x]; rfl
theorem keyT_tp (x : List Int) : keyT (tp x) = some (keyL x) := keysD_ints x
theorem keyDz_keyL (x : List Int) : keyDz (keyL x) = tp x := by
  unfold keyDz keyL tp
  rw [List.map_map]; rfl
theorem valT_dm {f : List Int → D} {y : List Int} : ∀ l : List (List Int), valT (dm f l) (keyL y) = if y ∈ l then some (f y) else none
  | [] => rfl
  | x :: l => by
    have ih := valT_dm (f := f) (y := y) l
    unfold valT dm at ih ⊢
    rw [List.map_cons]
    by_cases h : x = y
    · subst h
      rw [List.find?_cons_of_pos (by simp), if_pos (List.mem_cons_self ..)]; rfl
    · rw [List.find?_cons_of_neg (by simpa using fun e => h (keyL_inj e)), ih]
      by_cases q : y ∈ l
      · rw [if_pos q, if_pos (List.mem_cons_of_mem _ q)]
      · rw [if_neg q, if_neg (fun z => (List.mem_cons.mp z).elim (fun e => h e.symm) q)]
theorem any_dm {f : List Int → D} {y : List Int} (l : List (List Int)) : (dm f l).any (fun kv => decide (kv.1 = keyL y)) = decide (y ∈ l) := by
  rw [Bool.eq_iff_iff, List.any_eq_true, decide_eq_true_eq]
  constructor
  · rintro ⟨kv, h, e⟩
    obtain ⟨x, hx, rfl⟩ := List.mem_map.mp h
    rw [← keyL_inj (of_decide_eq_true e)]; exact hx
  · intro h
    exact ⟨(keyL y, f y), List.mem_map.mpr ⟨y, h, rfl⟩, by simp⟩
def putR (m : List (List Int)) (x : List Int) : List (List Int) := if x ∈ m then m else m ++ [x]
theorem putT_dm {f : List Int → D} {y : List Int} (l : List (List Int)) : putT (dm f l) (keyL y) (f y) = dm f (putR l y) := by
  unfold putT putR
  rw [any_dm]
  by_cases h : y ∈ l
  · rw [if_pos (decide_eq_true h), if_pos h]
    unfold dm
    rw [List.map_map]
    refine List.map_congr_left fun x _ => ?_
    show (if keyL x = keyL y then (keyL x, f y) else (keyL x, f x)) = _
    by_cases e : x = y
    · rw [e, if_pos rfl]
    · rw [if_neg fun q => e (keyL_inj q)]
  · rw [if_neg (by simpa using h), if_neg h]
    unfold dm
    rw [List.map_append]; rfl
section
variable {ρ : En} {φ : Fd} {A B : SX} {x : List Int} {l : List (List Int)} {f : List Int → D}
theorem tupl_ok (h : A ρ φ = .ok (row x) φ) : eCB gTuple (aCons A aNil) ρ φ = .ok (tp x) φ := cb1_ok h rfl
theorem tupt_ok (h : A ρ φ = .ok (tp x) φ) : eCB gTuple (aCons A aNil) ρ φ = .ok (tp x) φ := cb1_ok h rfl
theorem lstt_ok (h : A ρ φ = .ok (tp x) φ) : eCB gList (aCons A aNil) ρ φ = .ok (row x) φ := cb1_ok h rfl
theorem lstr_ok (h : A ρ φ = .ok (row x) φ) : eCB gList (aCons A aNil) ρ φ = .ok (row x) φ := cb1_ok h rfl
theorem tnot_ok {d : D} (hA : A ρ φ = .ok (tp x) φ) (hB : B ρ φ = .ok d φ) (hd : asT d = some (dm f l)) : bVal (eTIn true A B) ρ φ = .ok (!decide (x ∈ l)) φ := by
  unfold bVal eTIn
  simp only [hA, hB, O.bind, hd, keyT_tp, valT_dm, if_true]
  by_cases h : x ∈ l <;> simp [h]
theorem tix_ok {d : D} (hA : A ρ φ = .ok d φ) (hB : B ρ φ = .ok (tp x) φ) (hd : asT d = some (dm f l)) (hx : x ∈ l) : eTIx A B ρ φ = .ok (f x) φ := by
  unfold eTIx
  rw [hA]
  show (O.bind (B ρ φ) fun kd φ2 => match asT d, keyT kd with
    | some l, some k => ofO (valT l k) φ2
    | _, _ => .bad) = _
  rw [hB]
  show (match asT d, keyT (tp x) with
    | some l, some k => ofO (valT l k) φ
    | _, _ => .bad) = _
  rw [hd, keyT_tp]
  show ofO (valT (dm f l) (keyL x)) φ = _
  rw [valT_dm, if_pos hx]; rfl
theorem putT_ok {i : Nat} (hi : ρ[i]? = some (some (.dt (dm f l)))) (hA : A ρ φ = .ok (f x) φ) (hB : B ρ φ = .ok (tp x) φ) (hl : l.length ≤ 1000000) : sPutT i A B ρ φ = .nx (ρ.set i (some (.dt (dm f (putR l x))))) φ := by
  unfold sPutT
  rw [hA]
  show (match ρ[i]? with
    | some (some (.dt l)) => (B ρ φ).toR ρ fun k φ2 => (match keyT k with
      | some key => if l.length < sizeLine then R.nx (ρ.set i (some (.dt (putT l key (f x))))) φ2 else .bad
      | _ => .bad)
    | _ => .bad) = _
  rw [hi]
  show ((B ρ φ).toR ρ fun k φ2 => (match keyT k with
      | some key => if (dm f l).length < sizeLine then R.nx (ρ.set i (some (.dt (putT (dm f l) key (f x))))) φ2 else .bad
      | _ => .bad)) = _
  rw [hB]
  show (match keyT (tp x) with
      | some key => if (dm f l).length < sizeLine then R.nx (ρ.set i (some (.dt (putT (dm f l) key (f x))))) φ else .bad
      | _ => .bad) = _
  rw [keyT_tp]
  show (if (dm f l).length < sizeLine then R.nx (ρ.set i (some (.dt (putT (dm f l) (keyL x) (f x))))) φ else .bad) = _
  rw [if_pos (size_lt (by unfold dm; rw [List.length_map]; exact hl)), putT_dm]
theorem keys_ok {i : Nat} (hi : ρ[i]? = some (some (.dz (dm f l)))) : iKeysD (eVar i) ρ φ = .ok (l.map tp) φ := by
  unfold iKeysD
  rw [v_ok hi]
  show O.ok ((dm f l).map fun kv => keyDz kv.1) φ = _
  unfold dm
  rw [List.map_map]
  congr 1
  exact List.map_congr_left fun x _ => keyDz_keyL x
theorem nz_row (x : List Int) : (row x).nz = true := by
  show D.nzs (x.map D.int) = true
  induction x with
  | nil => rfl
  | cons a x ih => exact ih
theorem nz_rws (l : List (List Int)) : (rws l).nz = true := by
  show D.nzs (l.map row) = true
  induction l with
  | nil => rfl
  | cons a l ih =>
    show (D.nz (row a) && D.nzs (l.map row)) = true
    rw [nz_row, ih]; rfl
theorem peek_ok {i : Nat} (hi : ρ[i]? = some (some (.dt (dm f l)))) {z : D} (hA : A (ρ.set i (some (.dz (dm f l)))) φ = .ok z φ) (hz : z.nz = true) : ePeek i A ρ φ = .ok z φ := by
  unfold ePeek
  rw [hi]
  show (match A (ρ.set i (some (.dz (dm f l)))) φ with
    | .ok d φ1 => if d.nz = true then O.ok d φ1 else .bad
    | _ => .bad) = _
  rw [hA]
  exact if_pos hz
theorem peekK_nx {i : Nat} {own1 : List Ms} {P Q : SS} {ρ2 : En} {r : R} (hi : ρ[i]? = some (some (.dt (dm f l)))) (hA : P (ρ.set i (some (.dz (dm f l)))) φ = .nx ρ2 φ) (hn : nzO own1 ρ2 = true) (hx : hasX ρ2 i = true) (hQ : Q (ρ2.set i (some (.dt (dm f l)))) φ = r) : sPeekK i own1 P Q ρ φ = r := by
  unfold sPeekK
  rw [hi]
  show (match P (ρ.set i (some (.dz (dm f l)))) φ with
    | .nx ρ2 φ2 => if nzO own1 ρ2 = true ∧ hasX ρ2 i = true then Q (ρ2.set i (some (.dt (dm f l)))) φ2 else .bad
    | _ => .bad) = _
  rw [hA]
  exact (if_pos ⟨hn, hx⟩).trans hQ
theorem lock_nx {i : Nat} {Q : SS} {r : R} (hi : ρ[i]? = some (some (.dt (dm f l)))) (hQ : Q (ρ.set i (some (.dz (dm f l)))) φ = r) : sLock i Q ρ φ = r := by
  unfold sLock
  rw [hi]
  exact hQ
/-- the keys, as lists -/
theorem lists_ok {i k : Nat} (hi : ρ[i]? = some (some (.dz (dm f l)))) (hl : l.length ≤ 1000000) (hk : ∀ z : D, ((wipeE ρ [k]).set k (some z))[k]? = some (some z)) :
    eLc (iKeysD (eVar i)) (tgN k) bYes (eCB gList (aCons (eVar k) aNil)) [k] ρ φ = .ok (rws l) φ :=
  lcm_ok l tp row (keys_ok hi) (size_le hl) fun x _ => ⟨_, rfl, lstt_ok (v_ok (hk _))⟩
end
/-! ## loops that fold -/
theorem for_fold {α β : Type} {T : Tg} {B : SS} {e : α → D} {φ : Fd} (f : β → α → β) (St : β → En → Prop) : ∀ (xs : List α) (s : β) {ρ : En}, St s ρ → (∀ x ∈ xs, ∀ s ρ, St s ρ → ∃ ρ1, T (e x) ρ = some ρ1 ∧ ∃ ρ2, (B ρ1 φ = .nx ρ2 φ ∨ B ρ1 φ = .ct ρ2 φ) ∧ St (f s x) ρ2) →
    ∃ ρ', forGo T B (xs.map e) ρ φ = .nx ρ' φ ∧ St (xs.foldl f s) ρ'
  | [], s, ρ, h0, _ => ⟨ρ, rfl, h0⟩
  | x :: xs, s, ρ, h0, hs => by
    obtain ⟨ρ1, h1, ρ2, h2, h3⟩ := hs x List.mem_cons_self s ρ h0
    obtain ⟨ρ', h4, h5⟩ := for_fold (B := B) (e := e) (φ := φ) f St xs (f s x) h3 fun y hy => hs y (List.mem_cons_of_mem _ hy)
    refine ⟨ρ', ?_, h5⟩
    rw [List.map_cons]
    unfold forGo
    rw [h1]
    rcases h2 with h2 | h2 <;> simp only [h2] <;> exact h4
theorem wh_step {C : SB} {B : SS} {n : Nat} {ρ ρ2 : En} {φ : Fd} (hc : C ρ φ = .ok true φ) (hb : B ρ φ = .nx ρ2 φ) : whGo C B (n + 1) ρ φ = whGo C B n ρ2 φ := by
  show ((C ρ φ).toR ρ fun b φ1 => if b = true then (match B ρ φ1 with
      | .nx ρ2 φ2 => whGo C B n ρ2 φ2
      | .ct ρ2 φ2 => whGo C B n ρ2 φ2
      | .bk ρ2 φ2 => .nx ρ2 φ2
      | .rt d φ2 => .rt d φ2
      | .ex x l ρ2 φ2 => .ex x l ρ2 φ2
      | .bad => .bad) else .nx ρ φ1) = _
  rw [hc]
  show (match B ρ φ with
      | .nx ρ2 φ2 => whGo C B n ρ2 φ2
      | .ct ρ2 φ2 => whGo C B n ρ2 φ2
      | .bk ρ2 φ2 => .nx ρ2 φ2
      | .rt d φ2 => .rt d φ2
      | .ex x l ρ2 φ2 => .ex x l ρ2 φ2
      | .bad => .bad) = _
  rw [hb]
theorem wh_end {C : SB} {B : SS} {n : Nat} {ρ : En} {φ : Fd} (hc : C ρ φ = .ok false φ) : whGo C B (n + 1) ρ φ = .nx ρ φ := by
  show ((C ρ φ).toR ρ fun b φ1 => if b = true then (match B ρ φ1 with
      | .nx ρ2 φ2 => whGo C B n ρ2 φ2
      | .ct ρ2 φ2 => whGo C B n ρ2 φ2
      | .bk ρ2 φ2 => .nx ρ2 φ2
      | .rt d φ2 => .rt d φ2
      | .ex x l ρ2 φ2 => .ex x l ρ2 φ2
      | .bad => .bad) else .nx ρ φ1) = _
  rw [hc]
  rfl
end Pf

set_option Elab.async false
set_option linter.all false
set_option maxRecDepth 100000
set_option maxHeartbeats 4000000
namespace Pf
open PySem PySem.Spec PyProof.Rows L2

/-! ## evaluation: mirrors -/
theorem f_less {r s : List Int} (φ : Fd) (hl : r.length ≤ 1000) : F_row_less [row r, row s] φ = .ok (row (less r s 1)) φ := by
  refine run_ret ?_
  rw [lcm_ok (r.zip s) _ (fun p => D.int (p.1 - p.2)) (zip_rows (two_ok (v_ok rfl) (v_ok rfl))) (zip_len hl) fun p hp => ⟨_, rfl, bin_ok (v_ok rfl) (v_ok rfl) rfl⟩]
  unfold row less
  have e : (fun a b : Int => a - 1 * b) = fun a b => a - b := by funext a b; rw [Int.one_mul]
  rw [e, ← zip_map, List.map_map]; rfl
theorem f_lproduct {r s : List Int} (φ : Fd) (hr : Rw r) (hs : Rw s) : F__law_product [row r, row s] φ = .ok (.int (dot r s)) φ := by
  refine run_ret (bin_ok (cb1_ok (lcm_ok (List.range 8) _ (fun k => D.int (r.getD k 0 * s.getD k 0)) rg8 (by decide) fun k hk => ⟨_, rfl, bin_ok (bin_ok (v_ok rfl) (v_ok rfl) (gIx_row (getD_get hr.1 hk))) (bin_ok (v_ok rfl) (v_ok rfl) (gIx_row (getD_get hs.1 hk))) (gMul_ok' ?_)⟩) ?_) rfl (gDiv_ok (by decide) (by decide)))
  · have := getD_bd hr hk
    omega
  · have : (List.range 8).map (fun k => D.int (r.getD k 0 * s.getD k 0)) = (List.zipWith (fun a b => a * b) r s).map D.int := by
      rw [← range8 hr.1 hs.1, List.map_map]; rfl
    rw [this]
    exact gSum_ints _
theorem less_smulR {m : Int} : ∀ (x g : List Int), less x (smul m g) 1 = less x g m
  | [], _ => by unfold less; simp
  | _ :: _, [] => by unfold less smul; simp
  | a :: x, b :: g => by
    have ih := less_smulR (m := m) x g
    unfold less smul at ih ⊢
    simp only [List.map_cons, List.zipWith_cons_cons]
    rw [ih]
    congr 1
    omega
theorem f_mir {g x : List Int} (φ : Fd) (hg : Rw g) (hx : Rw x) (hd : (dot g x).natAbs ≤ 1000000) : F_mirrored [row g, row x] φ = .ok (row (mir g x)) φ := by
  refine run_ret (call_ok (two_ok (v_ok rfl) (call_ok (two_ok (call_ok (two_ok (v_ok rfl) (v_ok rfl)) (f_product φ hg.2 (by rw [hg.1]; decide))) (v_ok rfl)) (f_times φ hd (by rw [hg.1]; decide)))) ((f_less φ (by rw [hx.1]; decide)).trans ?_))
  rw [less_smulR]
  rfl
theorem f_lmir {g x : List Int} (φ : Fd) (hg : Rw g) (hx : Rw x) (hd : (dot g x).natAbs ≤ 1000000) : F__law_mirror [row g, row x] φ = .ok (row (mir g x)) φ := by
  refine run_rt (seq_nx (set_ok (call_ok (two_ok (v_ok rfl) (v_ok rfl)) (f_lproduct φ hg hx))) (seq_rt (ret_ok ?_)))
  refine Eq.trans (b := O.ok (D.lst ((List.range 8).map fun k => D.int (x.getD k 0 - dot g x * g.getD k 0))) _) (lcm_ok (List.range 8) _ (fun k => D.int (x.getD k 0 - dot g x * g.getD k 0)) rg8 (by decide) fun t ht => ⟨_, rfl, bin_ok (bin_ok (v_ok rfl) (v_ok rfl) (gIx_row (getD_get hx.1 ht))) (bin_ok (v_ok rfl) (bin_ok (v_ok rfl) (v_ok rfl) (gIx_row (getD_get hg.1 ht))) (gMul_ok' ?_)) rfl⟩) ?_
  · omega
  · unfold row mir less
    rw [← range8 hx.1 hg.1 (fun a b => a - dot g x * b), List.map_map]
    rfl
/-- whole rows that are not long -/
def Sm (x : List Int) : Prop := Lat x ∧ mulS x x ≤ 60000
theorem mem_sq : ∀ {x : List Int} {a : Int}, a ∈ x → a * a ≤ mulS x x
  | b :: x, a, h => by
    rw [mulS_cons]
    have h1 := sq_nn b
    have h2 := mulS_nn x
    rcases List.mem_cons.mp h with rfl | h
    · omega
    · have := mem_sq h
      omega
theorem Sm.rw {x : List Int} (h : Sm x) : Rw x := ⟨h.1.1, fun a ha => by
  have h1 := mem_sq ha
  have h2 := h.2
  rcases (show a.natAbs ≤ 1000000 ∨ 1000001 ≤ a.natAbs by omega) with q | q
  · exact q
  · have : 1000001 * 1000001 ≤ a.natAbs * a.natAbs := Nat.mul_le_mul q q
    have e : ((a.natAbs * a.natAbs : Nat) : Int) = a * a := by rw [Int.natCast_mul, Int.natAbs_mul_self']
    omega⟩
theorem Sm.mir {g x : List Int} (hg : g ∈ RT) (h : Sm x) : Sm (mir g x) := ⟨mir_lat hg h.1, by rw [mulS_mir hg h.1 h.1]; exact h.2⟩
theorem Sm.dot {g x : List Int} (hg : g ∈ RT) (h : Sm x) : (dot g x).natAbs ≤ 1000000 := by
  have h1 := cs_ineq (x := g) (y := x) (by rw [RT_l8 hg, h.1.1])
  rw [RT_sq hg] at h1
  have h2 := (RT_lat hg).dot h.1
  have h3 := h.2
  rw [h2] at h1
  rcases (show (Pf.dot g x).natAbs ≤ 1000000 ∨ 1000001 ≤ (Pf.dot g x).natAbs by omega) with q | q
  · exact q
  · have : 1000001 * 1000001 ≤ (Pf.dot g x).natAbs * (Pf.dot g x).natAbs := Nat.mul_le_mul q q
    have e : (((Pf.dot g x).natAbs * (Pf.dot g x).natAbs : Nat) : Int) = Pf.dot g x * Pf.dot g x := by rw [Int.natCast_mul, Int.natAbs_mul_self']
    have e2 : 4 * Pf.dot g x * (4 * Pf.dot g x) = 16 * (Pf.dot g x * Pf.dot g x) := by grind
    omega
theorem RT_sm {x : List Int} (h : x ∈ RT) : Sm x := ⟨RT_lat h, by rw [RT_sq h]; decide⟩
theorem s_mir {g x : List Int} (φ : Fd) (hg : g ∈ RT) (hx : Sm x) : F_mirrored [row g, row x] φ = .ok (row (mir g x)) φ := f_mir φ (RT_rw hg) hx.rw (hx.dot hg)
theorem s_lmir {g x : List Int} (φ : Fd) (hg : g ∈ RT) (hx : Sm x) : F__law_mirror [row g, row x] φ = .ok (row (mir g x)) φ := f_lmir φ (RT_rw hg) hx.rw (hx.dot hg)
abbrev lb_mirrored_by_1 : SS := (sSeq (sSet 2 (eCall F_mirrored (aCons (eVar 3) (aCons (eVar 2) aNil)))) sNil)
theorem mby_sm {gs : List (List Int)} {x : List Int} (h : ∀ g ∈ gs, g ∈ RT) (hx : Sm x) : Sm (mby gs x) := ⟨mby_lat h hx.1, by rw [mby_mul h hx.1 hx.1]; exact hx.2⟩
theorem f_mby {gs : List (List Int)} {x : List Int} (φ : Fd) (h : ∀ g ∈ gs, g ∈ RT) (hx : Sm x) : F_mirrored_by [rws gs, row x] φ = .ok (row (mby gs x)) φ := by
  obtain ⟨ρ', h1, hs, z, rfl⟩ := for_fold (T := tgN 3) (φ := φ) (e := row) (B := lb_mirrored_by_1) (fun y g => mir g y) (fun y ρ => Sm y ∧ ∃ z, ρ = [some (rws gs), some (row x), some (row y), z]) gs x (ρ := [some (rws gs), some (row x), some (row x), none]) ⟨hx, _, rfl⟩ (by
    rintro g hg y ρ ⟨hy, z, rfl⟩
    exact ⟨_, rfl, _, .inl (seq_one (set_ok (call_ok (two_ok (v_ok rfl) (v_ok rfl)) (s_mir φ (h g hg) hy)))), hy.mir (h g hg), _, rfl⟩)
  exact run_rt (seq_nx (set_ok (lstr_ok (v_ok rfl))) (seq_nx (for_ok (seq_l (v_ok rfl)) h1) (seq_rt (ret_ok (v_ok rfl)))))
theorem f_lroots (φ : Fd) : F__law_roots [] φ = .ok (rws RT) φ := by
  refine run_rt (seq_nx (set_ok rfl) (seq_env (by kernel_rfl) (seq_env (by kernel_rfl) (seq_rt (ret_ok (cb1_ok (v_ok (d := rws LR) (by kernel_rfl)) ?_))))))
  unfold rws
  rw [emb_row.gSorted (by decide), RT_lr_sort]
theorem f_base (φ : Fd) : F_base_roots [] φ = .ok (rws BR) φ := by kernel_rfl
end Pf

set_option Elab.async false
set_option linter.all false
set_option maxRecDepth 100000
set_option maxHeartbeats 4000000
namespace Pf
open PySem PySem.Spec PyProof.Rows L2

/-! ## evaluation: one mirror, two mirrors -/
def oR : Option (List Int) → D
  | none => .non
  | some x => row x
def leadP (r o : List Int) : D :=
  if r = o then .lst [] else if isT (dot r o) = true then .lst [oR (one1 r o)] else match RT.find? (fun f => isT (dot (mir f r) o)) with
    | some f => .lst [row f, oR (one1 (mir f r) o)]
    | none => .non
theorem eq_rows (x y : List Int) : gEq (row x) (row y) = some (.bl (decide (x = y))) := emb_row.gEq (by decide) x y
abbrev lb_one_mirror_1 : SS := (sSeq (sIf (bCmp gEq (eCall F_mirrored (aCons (eVar 3) (aCons (eVar 1) aNil))) (eVar 2)) (sSeq (sRet (eVar 3)) sNil) sNil) sNil)
theorem f_one {r o : List Int} (φ : Fd) (hr : r ∈ RT) : F_one_mirror [rws RT, row r, row o] φ = .ok (oR (one1 r o)) φ := by
  have loop := for_first (T := tgN 3) (φ := φ) (e := row) (B := lb_one_mirror_1) (leads r o) (fun x => row x) (fun ρ => ∃ z, ρ = [some (rws RT), some (row r), some (row o), z]) RT (ρ := [some (rws RT), some (row r), some (row o), none]) ⟨_, rfl⟩ (by
    rintro g hg ρ ⟨z, rfl⟩
    have t : (bCmp gEq (eCall F_mirrored (aCons (eVar 3) (aCons (eVar 1) aNil))) (eVar 2)) [some (rws RT), some (row r), some (row o), some (row g)] φ = .ok (leads r o g) φ := cmp_ok (call_ok (two_ok (v_ok rfl) (v_ok rfl)) (s_mir φ hg (RT_sm hr))) (v_ok rfl) (eq_rows _ _)
    exact ⟨_, rfl, fun h => seq_rt (if_yes (t.trans (by rw [h])) (seq_rt (ret_ok (v_ok rfl)))), fun h => ⟨_, .inl (seq_one (if_skip (t.trans (by rw [h])))), _, rfl⟩⟩)
  unfold one1
  cases e : RT.find? (leads r o) with
  | none =>
    obtain ⟨ρ', h1, z, rfl⟩ := loop.1 e
    exact run_rt (seq_nx (for_ok (seq_l (v_ok rfl)) h1) (seq_rt (ret_ok rfl)))
  | some x => exact run_rt (seq_rt (for_ok (seq_l (v_ok rfl)) (loop.2 x e)))
theorem in_t1 {x y : List Int} (hx : x ∈ RT) (hy : y ∈ RT) : gIn false (.int (dot x y)) (.tup [.int 1, .int (-2)]) = some (.bl (isT (dot x y))) := by
  rcases dot_cases hx hy with e | e | e | e | e <;> rw [e] <;> rfl
theorem in_t2 {x y : List Int} (hx : x ∈ RT) (hy : y ∈ RT) : gIn false (.int (dot x y)) (.lst [.int 1, .int (-2)]) = some (.bl (isT (dot x y))) := by
  rcases dot_cases hx hy with e | e | e | e | e <;> rw [e] <;> rfl
abbrev lb_lead_root_1 : SS := (sSeq (sSet 4 (eCall F_mirrored (aCons (eVar 3) (aCons (eVar 0) aNil)))) (sSeq (sIf (bCmp (gIn false) (eCall F_row_product (aCons (eVar 4) (aCons (eVar 1) aNil))) (eTup (aCons (eInt 1) (aCons (eUn gNeg (eInt 2)) aNil)))) (sSeq (sRet (eLst (aCons (eVar 3) (aCons (eCall F_one_mirror (aCons (eVar 2) (aCons (eVar 4) (aCons (eVar 1) aNil)))) aNil)))) sNil) sNil) sNil))
theorem pair_ok {ρ : En} {φ : Fd} : eTup (aCons (eInt 1) (aCons (eUn gNeg (eInt 2)) aNil)) ρ φ = .ok (.tup [.int 1, .int (-2)]) φ := tup_ok (two_ok rfl (un_ok rfl rfl)) (size_le (show 2 ≤ 1000000 by decide))
theorem pairl_ok {ρ : En} {φ : Fd} : eLst (aCons (eInt 1) (aCons (eUn gNeg (eInt 2)) aNil)) ρ φ = .ok (.lst [.int 1, .int (-2)]) φ := lst_ok (two_ok rfl (un_ok rfl rfl)) (size_le (show 2 ≤ 1000000 by decide))
theorem prod_RT {x y : List Int} (φ : Fd) (hx : x ∈ RT) : F_row_product [row x, row y] φ = .ok (.int (dot x y)) φ := f_product φ (RT_rw hx).2 (by rw [RT_l8 hx]; decide)
theorem f_lead {r o : List Int} (φ : Fd) (hr : r ∈ RT) (ho : o ∈ RT) : F_lead_root [row r, row o] φ = .ok (leadP r o) φ := by
  have t0 : (bCmp gEq (eVar 0) (eVar 1)) [some (row r), some (row o), none, none, none] φ = .ok (decide (r = o)) φ := cmp_ok (v_ok rfl) (v_ok rfl) (eq_rows r o)
  unfold leadP
  by_cases hne : r = o
  · rw [if_pos hne]
    exact run_rt (seq_rt (if_yes (t0.trans (by rw [decide_eq_true hne])) (seq_rt (ret_ok rfl))))
  · rw [if_neg hne]
    have s0 := if_skip (P := sSeq (sRet (eLst aNil)) sNil) (t0.trans (by rw [decide_eq_false hne]))
    have t1 : (bCmp (gIn false) (eCall F_row_product (aCons (eVar 0) (aCons (eVar 1) aNil))) (eTup (aCons (eInt 1) (aCons (eUn gNeg (eInt 2)) aNil)))) [some (row r), some (row o), some (rws RT), none, none] φ = .ok (isT (dot r o)) φ := cmp_ok (call_ok (two_ok (v_ok rfl) (v_ok rfl)) (prod_RT φ hr)) pair_ok (in_t1 hr ho)
    have s1 := set_ok (i := 2) (ρ := [some (row r), some (row o), none, none, none]) (call0_ok (ρ := [some (row r), some (row o), none, none, none]) (f_roots φ))
    by_cases h1 : isT (dot r o) = true
    · rw [if_pos h1]
      refine run_rt (seq_nx s0 (seq_nx s1 (seq_rt (if_yes (t1.trans (by rw [h1])) (seq_rt (ret_ok (lst_ok (one_ok (call_ok (cons_ok (v_ok rfl) (two_ok (v_ok rfl) (v_ok rfl))) (f_one φ hr))) (size_le (show 1 ≤ 1000000 by decide)))))))))
    · rw [if_neg h1]
      have s2 := if_skip (P := (sSeq (sRet (eLst (aCons (eCall F_one_mirror (aCons (eVar 2) (aCons (eVar 0) (aCons (eVar 1) aNil)))) aNil))) sNil)) (t1.trans (by rw [Bool.eq_false_iff.mpr h1]))
      have loop := for_first (T := tgN 3) (φ := φ) (e := row) (B := lb_lead_root_1) (fun f => isT (dot (mir f r) o)) (fun f => D.lst [row f, oR (one1 (mir f r) o)]) (fun ρ => ∃ z y, ρ = [some (row r), some (row o), some (rws RT), z, y]) RT (ρ := [some (row r), some (row o), some (rws RT), none, none]) ⟨_, _, rfl⟩ (by
        rintro g hg ρ ⟨z, y, rfl⟩
        have hm := mir_RT hg hr
        have e1 := set_ok (i := 4) (ρ := [some (row r), some (row o), some (rws RT), some (row g), y]) (call_ok (S := (aCons (eVar 3) (aCons (eVar 0) aNil))) (two_ok (v_ok rfl) (v_ok rfl)) (s_mir φ hg (RT_sm hr)))
        have t2 : (bCmp (gIn false) (eCall F_row_product (aCons (eVar 4) (aCons (eVar 1) aNil))) (eTup (aCons (eInt 1) (aCons (eUn gNeg (eInt 2)) aNil)))) [some (row r), some (row o), some (rws RT), some (row g), some (row (mir g r))] φ = .ok (isT (dot (mir g r) o)) φ := cmp_ok (call_ok (two_ok (v_ok rfl) (v_ok rfl)) (prod_RT φ hm)) pair_ok (in_t1 hm ho)
        refine ⟨_, rfl, fun h => seq_nx e1 (seq_rt (if_yes (t2.trans (by rw [h])) (seq_rt (ret_ok (lst_ok (two_ok (v_ok rfl) (call_ok (cons_ok (v_ok rfl) (two_ok (v_ok rfl) (v_ok rfl))) (f_one φ hm))) (size_le (show 2 ≤ 1000000 by decide))))))), fun h => ⟨_, .inl (seq_nx e1 (seq_one (if_skip (t2.trans (by rw [h]))))), _, _, rfl⟩⟩)
      cases e : RT.find? (fun f => isT (dot (mir f r) o)) with
      | none =>
        obtain ⟨ρ', h2, z, y, rfl⟩ := loop.1 e
        exact run_rt (seq_nx s0 (seq_nx s1 (seq_nx s2 (seq_nx (for_ok (seq_l (v_ok rfl)) h2) (seq_rt (ret_ok rfl))))))
      | some x => exact run_rt (seq_nx s0 (seq_nx s1 (seq_nx s2 (seq_rt (for_ok (seq_l (v_ok rfl)) (loop.2 x e))))))
/-! ## the law's own -/
abbrev lb__law_one_1 : SS := (sSeq (sIf (bCmp (gIn false) (eVar 5) (eVar 0)) (sSeq (sMut 4 gApp (eVar 5)) sNil) sNil) (sSeq (sIf (bCmp gEq (eCB gLen (aCons (eLc (iSeq (eVar 5)) (tgN 8) (bCmp gEq (eBin gMod (eCB gInt (aCons (eVar 8) aNil)) (eInt 2)) (eInt 1)) (eVar 8) [8]) aNil)) (eInt 0)) (sSeq (sSet 6 (eLc (iSeq (eVar 5)) (tgN 8) bYes (eBin gDiv (eVar 8) (eInt 2)) [8])) (sSeq (sIf (bCmp (gIn false) (eVar 6) (eVar 0)) (sSeq (sMut 4 gApp (eVar 6)) sNil) sNil) sNil)) sNil) sNil))
theorem app_r {ρ : En} {φ : Fd} {i : Nat} {A : SX} {acc : List (List Int)} {x : List Int} (hi : ρ[i]? = some (some (rws acc))) (h : A ρ φ = .ok (row x) φ) (hl : acc.length ≤ 500000) : sMut i gApp A ρ φ = .nx (ρ.set i (some (rws (acc ++ [x])))) φ := by
  refine (app_ok hi h (size_lt (by rw [List.length_map]; omega))).trans ?_
  unfold rws
  rw [List.map_append]; rfl
theorem cand1_body {r o w : List Int} {acc : List (List Int)} {z3 z6 z7 z8 : Option D} (φ : Fd) (hw : w.length = 8) (hl : acc.length ≤ 100000) :
    ∃ z, lb__law_one_1 [some (rws RT), some (row r), some (row o), z3, some (rws acc), some (row w), z6, z7, z8] φ = .nx [some (rws RT), some (row r), some (row o), z3, some (rws (acc ++ cand1 w)), some (row w), z, z7, z8] φ := by
  have t1 : ∀ a z6, (bCmp (gIn false) (eVar 5) (eVar 0)) [some (rws RT), some (row r), some (row o), z3, some (rws a), some (row w), z6, z7, z8] φ = .ok (decide (w ∈ RT)) φ := fun a z6 => cmp_ok (v_ok rfl) (v_ok rfl) (in_rows w RT)
  have e1 : (sIf (bCmp (gIn false) (eVar 5) (eVar 0)) (sSeq (sMut 4 gApp (eVar 5)) sNil) sNil) [some (rws RT), some (row r), some (row o), z3, some (rws acc), some (row w), z6, z7, z8] φ = .nx [some (rws RT), some (row r), some (row o), z3, some (rws (acc ++ if w ∈ RT then [w] else [])), some (row w), z6, z7, z8] φ := by
    by_cases h : w ∈ RT
    · rw [if_pos h]
      exact if_yes ((t1 acc z6).trans (by rw [decide_eq_true h])) (seq_one (app_r rfl (v_ok rfl) (by omega)))
    · rw [if_neg h, List.append_nil]
      exact if_skip ((t1 acc z6).trans (by rw [decide_eq_false h]))
  obtain ⟨acc1, hacc⟩ : ∃ a, a = acc ++ (if w ∈ RT then [w] else []) := ⟨_, rfl⟩
  have hl1 : acc1.length ≤ 100001 := by
    rw [hacc, List.length_append]
    split <;> simp <;> omega
  rw [← hacc] at e1
  have t2 : (bCmp gEq (eCB gLen (aCons (eLc (iSeq (eVar 5)) (tgN 8) (bCmp gEq (eBin gMod (eCB gInt (aCons (eVar 8) aNil)) (eInt 2)) (eInt 1)) (eVar 8) [8]) aNil)) (eInt 0)) [some (rws RT), some (row r), some (row o), z3, some (rws acc1), some (row w), z6, z7, z8] φ = .ok (evB w) φ := by
    refine cmp_ok (len_ok (lc_ok w D.int (fun x => decide (x.fmod 2 = 1)) D.int (seq_l (v_ok rfl)) (size_le (by omega)) fun x hx => ⟨_, rfl, cmp_ok (bin_ok (cb1_ok (v_ok rfl) rfl) rfl (gMod_ok (by decide))) rfl (eq_int _ _), fun _ => v_ok rfl⟩)) rfl ((eq_int _ _).trans ?_)
    unfold evB
    rw [List.length_map]
    congr 2
    rw [Bool.eq_iff_iff, decide_eq_true_eq, List.isEmpty_iff, ← List.length_eq_zero_iff]
    omega
  unfold cand1
  rw [← List.append_assoc, ← hacc]
  by_cases h2 : evB w = true
  · have e2 : eLc (iSeq (eVar 5)) (tgN 8) bYes (eBin gDiv (eVar 8) (eInt 2)) [8] [some (rws RT), some (row r), some (row o), z3, some (rws acc1), some (row w), z6, z7, z8] φ = .ok (row (hlf w)) φ := by
      rw [lcm_ok w D.int (fun x => D.int (x.fdiv 2)) (seq_l (v_ok rfl)) (size_le (by omega)) fun x hx => ⟨_, rfl, bin_ok (v_ok rfl) rfl (gDiv_ok (by decide) (by decide))⟩]
      unfold row hlf
      rw [List.map_map]; rfl
    have t3 : (bCmp (gIn false) (eVar 6) (eVar 0)) [some (rws RT), some (row r), some (row o), z3, some (rws acc1), some (row w), some (row (hlf w)), z7, z8] φ = .ok (decide (hlf w ∈ RT)) φ := cmp_ok (v_ok rfl) (v_ok rfl) (in_rows _ RT)
    by_cases h3 : hlf w ∈ RT
    · rw [if_pos ⟨h2, h3⟩]
      exact ⟨_, seq_nx e1 (seq_one (if_yes (t2.trans (by rw [h2])) (seq_nx (set_ok e2) (seq_one (if_yes (t3.trans (by rw [decide_eq_true h3])) (seq_one (app_r rfl (v_ok rfl) (by omega))))))))⟩
    · rw [if_neg (fun q => h3 q.2), List.append_nil]
      exact ⟨_, seq_nx e1 (seq_one (if_yes (t2.trans (by rw [h2])) (seq_nx (set_ok e2) (seq_one (if_skip (t3.trans (by rw [decide_eq_false h3])))))))⟩
  · rw [if_neg (fun q => h2 q.1), List.append_nil]
    exact ⟨_, seq_nx e1 (seq_one (if_skip (t2.trans (by rw [Bool.eq_false_iff.mpr h2]))))⟩
theorem by8 {ρ : En} {φ : Fd} {i j k : Nat} {x y : List Int} (hx : x.length = 8) (hy : y.length = 8)
    (hi : ∀ z : D, ((wipeE ρ [k]).set k (some z))[i]? = some (some (row x))) (hj : ∀ z : D, ((wipeE ρ [k]).set k (some z))[j]? = some (some (row y))) (hk : ∀ z : D, ((wipeE ρ [k]).set k (some z))[k]? = some (some z)) :
    eLc (iRg1 (aCons (eInt 8) aNil)) (tgN k) bYes (eBin gSub (eBin gIx (eVar i) (eVar k)) (eBin gIx (eVar j) (eVar k))) [k] ρ φ = .ok (row (less x y 1)) φ := by
  refine Eq.trans (b := O.ok (D.lst ((List.range 8).map fun k => D.int (x.getD k 0 - 1 * y.getD k 0))) _) (lcm_ok (List.range 8) _ (fun k => D.int (x.getD k 0 - 1 * y.getD k 0)) rg8 (by decide) fun t ht => ⟨_, rfl, bin_ok (bin_ok (v_ok (hi _)) (v_ok (hk _)) (gIx_row (getD_get hx ht))) (bin_ok (v_ok (hj _)) (v_ok (hk _)) (gIx_row (getD_get hy ht))) (by rw [Int.one_mul]; rfl)⟩) ?_
  unfold row less
  rw [← range8 hx hy (fun a b => a - 1 * b), List.map_map]
  rfl
theorem neg_ok {ρ : En} {φ : Fd} {i k : Nat} {x : List Int} (hx : x.length ≤ 1000) (hi : ρ[i]? = some (some (row x))) (hk : ∀ z : D, ((wipeE ρ [k]).set k (some z))[k]? = some (some z)) :
    eLc (iSeq (eVar i)) (tgN k) bYes (eBin gSub (eInt 0) (eVar k)) [k] ρ φ = .ok (row (neg x)) φ := by
  rw [lcm_ok x D.int (fun a => D.int (0 - a)) (seq_l (v_ok hi)) (size_le (by omega)) fun a ha => ⟨_, rfl, bin_ok rfl (v_ok (hk _)) rfl⟩]
  unfold row neg smul
  rw [List.map_map]
  congr 2
  refine List.map_congr_left fun a _ => ?_
  show D.int (0 - a) = D.int (-1 * a)
  congr 1
  omega
end Pf

set_option Elab.async false
set_option linter.all false
set_option maxRecDepth 100000
set_option maxHeartbeats 4000000
namespace Pf
open PySem PySem.Spec PyProof.Rows L2

theorem cand_len (w : List Int) : (cand1 w).length ≤ 2 := by
  unfold cand1
  rw [List.length_append]
  split <;> split <;> simp
theorem f_lone {r o : List Int} (φ : Fd) (hr : r ∈ RT) (ho : o ∈ RT) : F__law_one [rws RT, row r, row o] φ = .ok (oR (lone r o)) φ := by
  have hw : (less r o 1).length = 8 := by rw [less_len (by rw [RT_l8 hr, RT_l8 ho]), RT_l8 hr]
  have hn : (neg (less r o 1)).length = 8 := by unfold neg; rw [smul_len, hw]
  have e1 : eLc (iRg1 (aCons (eInt 8) aNil)) (tgN 7) bYes (eBin gSub (eBin gIx (eVar 1) (eVar 7)) (eBin gIx (eVar 2) (eVar 7))) [7] [some (rws RT), some (row r), some (row o), none, none, none, none, none, none] φ = .ok (row (less r o 1)) φ := by8 (RT_l8 hr) (RT_l8 ho) (fun _ => rfl) (fun _ => rfl) fun _ => rfl
  have e2 : iSeq (eLst (aCons (eVar 3) (aCons (eLc (iSeq (eVar 3)) (tgN 8) bYes (eBin gSub (eInt 0) (eVar 8)) [8]) aNil))) [some (rws RT), some (row r), some (row o), some (row (less r o 1)), some (.lst []), none, none, none, none] φ = .ok ([less r o 1, neg (less r o 1)].map row) φ :=
    seq_l (lst_ok (two_ok (v_ok rfl) (neg_ok (by omega) rfl fun _ => rfl)) (size_le (show 2 ≤ 1000000 by decide)))
  obtain ⟨ρ', h1, z5, z6, rfl⟩ := for_app (T := tgN 5) (B := lb__law_one_1) (φ := φ) (e := row) cand1 (fun acc ρ => ∃ z5 z6, ρ = [some (rws RT), some (row r), some (row o), some (row (less r o 1)), some (rws acc), z5, z6, none, none]) [less r o 1, neg (less r o 1)] [] (ρ := [some (rws RT), some (row r), some (row o), some (row (less r o 1)), some (.lst []), none, none, none, none]) ⟨_, _, rfl⟩
    (by have := cand_len (less r o 1); have := cand_len (neg (less r o 1)); simp; omega) (by
      rintro w hw' acc ρ hl ⟨z5, z6, rfl⟩
      have h8 : w.length = 8 := by
        rcases List.mem_cons.mp hw' with rfl | q
        · exact hw
        · rw [List.mem_singleton.mp q]; exact hn
      obtain ⟨z, hz⟩ := cand1_body (r := r) (o := o) (acc := acc) (z3 := some (row (less r o 1))) (z6 := z6) (z7 := none) (z8 := none) φ h8 (by omega)
      exact ⟨_, rfl, _, .inl hz, _, _, rfl⟩)
  rw [List.nil_append] at h1
  have hl : (cand r o).length ≤ 4 := by
    have h1 := cand_len (less r o 1)
    have h2 := cand_len (neg (less r o 1))
    unfold cand
    simp
    omega
  have ht : ∀ x ∈ cand r o, x ∈ RT := fun x hx => cand_RT hx
  have e3 : eLc (iSeq (eCB gSorted (aCons (eVar 4) aNil))) (tgN 5) (bCmp gEq (eCall F__law_mirror (aCons (eVar 5) (aCons (eVar 1) aNil))) (eVar 2)) (eVar 5) [5] [some (rws RT), some (row r), some (row o), some (row (less r o 1)), some (rws (cand r o)), z5, z6, none, none] φ = .ok (rws (((cand r o).mergeSort (leL ltR)).filter (leads r o))) φ :=
    lc_ok _ row (leads r o) row (seq_l (cb1_ok (v_ok rfl) (emb_row.gSorted (by decide) _))) (size_le (by rw [List.length_mergeSort]; omega)) fun x hx =>
      ⟨_, rfl, cmp_ok (call_ok (two_ok (v_ok rfl) (v_ok rfl)) (s_lmir φ (ht x ((List.mergeSort_perm _ _).mem_iff.mp hx)) (RT_sm hr))) (v_ok rfl) (eq_rows _ _), fun _ => v_ok rfl⟩
  have hfl : (((cand r o).mergeSort (leL ltR)).filter (leads r o)).length ≤ 4 := Nat.le_trans (List.length_filter_le _ _) (by rw [List.length_mergeSort]; exact hl)
  have pre : ∀ {rest : SS} {res : R}, rest [some (rws RT), some (row r), some (row o), some (row (less r o 1)), some (rws (((cand r o).mergeSort (leL ltR)).filter (leads r o))), z5, z6, none, none] φ = res → sSeq (sSet 3 (eLc (iRg1 (aCons (eInt 8) aNil)) (tgN 7) bYes (eBin gSub (eBin gIx (eVar 1) (eVar 7)) (eBin gIx (eVar 2) (eVar 7))) [7])) (sSeq (sSet 4 (eLst aNil)) (sSeq (sFor (iSeq (eLst (aCons (eVar 3) (aCons (eLc (iSeq (eVar 3)) (tgN 8) bYes (eBin gSub (eInt 0) (eVar 8)) [8]) aNil)))) (tgN 5) lb__law_one_1) (sSeq (sSet 4 (eLc (iSeq (eCB gSorted (aCons (eVar 4) aNil))) (tgN 5) (bCmp gEq (eCall F__law_mirror (aCons (eVar 5) (aCons (eVar 1) aNil))) (eVar 2)) (eVar 5) [5])) rest))) [some (rws RT), some (row r), some (row o), none, none, none, none, none, none] φ = res := fun h =>
    seq_nx (set_ok e1) (seq_nx (set_ok rfl) (seq_nx (for_ok e2 h1) (seq_nx (set_ok e3) h)))
  unfold lone
  generalize (((cand r o).mergeSort (leL ltR)).filter (leads r o)) = L at pre hfl
  have t : (bCmp gEq (eCB gLen (aCons (eVar 4) aNil)) (eInt 0)) [some (rws RT), some (row r), some (row o), some (row (less r o 1)), some (rws L), z5, z6, none, none] φ = .ok (decide ((L.length : Int) = 0)) φ := cmp_ok (cb1_ok (v_ok rfl) gLen_rows) rfl (eq_int _ _)
  cases L with
  | nil => exact run_rt (pre (seq_rt (if_yes t (seq_rt (ret_ok rfl)))))
  | cons x L => exact run_rt (pre (seq_nx (if_skip (t.trans (by rw [decide_eq_false (by rw [List.length_cons]; omega)]))) (seq_rt (ret_ok (bin_ok (v_ok rfl) rfl (gIx_lst (k := 0) (x := row x) rfl))))))
theorem oR_not (x : Option (List Int)) : gIsNot (oR x) .non = some (.bl x.isSome) := by cases x <;> rfl
noncomputable abbrev lb__law_lead_1 : SS := (sSeq (sSet 5 (eCall F__law_mirror (aCons (eVar 4) (aCons (eVar 1) aNil)))) (sSeq (sIf (bCmp (gIn false) (eCall F__law_product (aCons (eVar 5) (aCons (eVar 2) aNil))) (eLst (aCons (eInt 1) (aCons (eUn gNeg (eInt 2)) aNil)))) (sSeq (sSet 6 (eCall F__law_one (aCons (eVar 0) (aCons (eVar 5) (aCons (eVar 2) aNil))))) (sSeq (sIf (bCmp gIsNot (eVar 6) eNon) (sSeq (sRet (eLst (aCons (eVar 4) (aCons (eVar 6) aNil)))) sNil) sNil) sNil)) sNil) sNil))
theorem isT_ne {x y : List Int} (hx : x ∈ RT) (h : isT (dot x y) = true) : x ≠ y := fun e => by
  rw [← e, dot_root hx] at h
  exact absurd h (by decide)
theorem f_llead {r o : List Int} (φ : Fd) (hr : r ∈ RT) (ho : o ∈ RT) : F__law_lead [rws RT, row r, row o] φ = .ok (leadP r o) φ := by
  have t0 : (bCmp gEq (eVar 1) (eVar 2)) [some (rws RT), some (row r), some (row o), none, none, none, none] φ = .ok (decide (r = o)) φ := cmp_ok (v_ok rfl) (v_ok rfl) (eq_rows r o)
  unfold leadP
  by_cases hne : r = o
  · rw [if_pos hne]
    exact run_rt (seq_rt (if_yes (t0.trans (by rw [decide_eq_true hne])) (seq_rt (ret_ok rfl))))
  · rw [if_neg hne]
    have s0 := if_skip (P := sSeq (sRet (eLst aNil)) sNil) (t0.trans (by rw [decide_eq_false hne]))
    have s1 := set_ok (i := 3) (ρ := [some (rws RT), some (row r), some (row o), none, none, none, none]) (call_ok (S := (aCons (eVar 0) (aCons (eVar 1) (aCons (eVar 2) aNil)))) (cons_ok (v_ok rfl) (two_ok (v_ok rfl) (v_ok rfl))) (f_lone φ hr ho))
    rw [lone_eq hr hne] at s1
    have t1 : (bCmp gIsNot (eVar 3) eNon) [some (rws RT), some (row r), some (row o), some (oR (one1 r o)), none, none, none] φ = .ok (isT (dot r o)) φ := cmp_ok (v_ok rfl) rfl ((oR_not _).trans (by rw [one1_iff hr ho hne]))
    by_cases h1 : isT (dot r o) = true
    · rw [if_pos h1]
      exact run_rt (seq_nx s0 (seq_nx s1 (seq_rt (if_yes (t1.trans (by rw [h1])) (seq_rt (ret_ok (lst_ok (one_ok (v_ok rfl)) (size_le (show 1 ≤ 1000000 by decide)))))))))
    · rw [if_neg h1]
      have s2 := if_skip (P := (sSeq (sRet (eLst (aCons (eVar 3) aNil))) sNil)) (t1.trans (by rw [Bool.eq_false_iff.mpr h1]))
      have loop := for_first (T := tgN 4) (φ := φ) (e := row) (B := lb__law_lead_1) (fun f => isT (dot (mir f r) o)) (fun f => D.lst [row f, oR (one1 (mir f r) o)]) (fun ρ => ∃ z y x, ρ = [some (rws RT), some (row r), some (row o), some (oR (one1 r o)), z, y, x]) RT (ρ := [some (rws RT), some (row r), some (row o), some (oR (one1 r o)), none, none, none]) ⟨_, _, _, rfl⟩ (by
        rintro g hg ρ ⟨z, y, x, rfl⟩
        have hm := mir_RT hg hr
        have e1 := set_ok (i := 5) (ρ := [some (rws RT), some (row r), some (row o), some (oR (one1 r o)), some (row g), y, x]) (call_ok (S := (aCons (eVar 4) (aCons (eVar 1) aNil))) (two_ok (v_ok rfl) (v_ok rfl)) (s_lmir φ hg (RT_sm hr)))
        have t2 : (bCmp (gIn false) (eCall F__law_product (aCons (eVar 5) (aCons (eVar 2) aNil))) (eLst (aCons (eInt 1) (aCons (eUn gNeg (eInt 2)) aNil)))) [some (rws RT), some (row r), some (row o), some (oR (one1 r o)), some (row g), some (row (mir g r)), x] φ = .ok (isT (dot (mir g r) o)) φ := cmp_ok (call_ok (two_ok (v_ok rfl) (v_ok rfl)) (f_lproduct φ (RT_rw hm) (RT_rw ho))) pairl_ok (in_t2 hm ho)
        refine ⟨_, rfl, fun h => ?_, fun h => ⟨_, .inl (seq_nx e1 (seq_one (if_skip (t2.trans (by rw [h]))))), _, _, _, rfl⟩⟩
        have hne2 := isT_ne hm h
        have e2 := set_ok (i := 6) (ρ := [some (rws RT), some (row r), some (row o), some (oR (one1 r o)), some (row g), some (row (mir g r)), x]) (call_ok (S := (aCons (eVar 0) (aCons (eVar 5) (aCons (eVar 2) aNil)))) (cons_ok (v_ok rfl) (two_ok (v_ok rfl) (v_ok rfl))) (f_lone φ hm ho))
        rw [lone_eq hm hne2] at e2
        have t3 : (bCmp gIsNot (eVar 6) eNon) [some (rws RT), some (row r), some (row o), some (oR (one1 r o)), some (row g), some (row (mir g r)), some (oR (one1 (mir g r) o))] φ = .ok true φ := cmp_ok (v_ok rfl) rfl ((oR_not _).trans (by rw [one1_iff hm ho hne2, h]))
        exact seq_nx e1 (seq_rt (if_yes (t2.trans (by rw [h])) (seq_nx e2 (seq_rt (if_yes t3 (seq_rt (ret_ok (lst_ok (two_ok (v_ok rfl) (v_ok rfl)) (size_le (show 2 ≤ 1000000 by decide)))))))))))
      cases e : RT.find? (fun f => isT (dot (mir f r) o)) with
      | none =>
        obtain ⟨ρ', h2, z, y, x, rfl⟩ := loop.1 e
        exact run_rt (seq_nx s0 (seq_nx s1 (seq_nx s2 (seq_nx (for_ok (seq_l (v_ok rfl)) h2) (seq_rt (ret_ok rfl))))))
      | some x => exact run_rt (seq_nx s0 (seq_nx s1 (seq_nx s2 (seq_rt (for_ok (seq_l (v_ok rfl)) (loop.2 x e))))))
end Pf

set_option Elab.async false
set_option linter.all false
set_option maxRecDepth 100000
set_option maxHeartbeats 4000000
namespace Pf
open PySem PySem.Spec PyProof.Rows L2

/-! ## evaluation: the closed list -/
def T1 : List Int → D := fun _ => .bl true
abbrev dD (l : List (List Int)) : D := .dt (dm T1 l)
theorem putR_eq : putR = put1 := rfl
theorem BI.le {rows met : List (List Int)} (hr : ∀ r ∈ rows, r ∈ RT) {st : List (List Int) × List (List Int)} (h : BI rows met st) : st.1.length ≤ 240 ∧ st.2.length ≤ 240 := by
  have : st.1.length ≤ 240 := by
    rw [← RT_len]
    exact sub_len h.nd fun x hx => (h.gen x hx).root hr
  have h2 := h.len
  omega
abbrev lb_closed_by_mirrors_3 : SS := (sSeq (sSet 6 (eCall F_mirrored (aCons (eVar 5) (aCons (eVar 4) aNil)))) (sSeq (sIf (bVal (eTIn true (eCB gTuple (aCons (eVar 6) aNil)) (eVar 1))) (sSeq (sPutT 1 (eBl true) (eCB gTuple (aCons (eVar 6) aNil))) (sSeq (sMut 3 gApp (eVar 6)) sNil)) sNil) sNil))
abbrev lb_closed_by_mirrors_2 : SS := (sSeq (sFor (iSeq (eVar 0)) (tgN 5) lb_closed_by_mirrors_3) sNil)
abbrev lb_closed_by_mirrors_1 : SS := (sSeq (sSet 3 (eLst aNil)) (sSeq (sFor (iSeq (eVar 2)) (tgN 4) lb_closed_by_mirrors_2) (sSeq (sSet 2 (eVar 3)) sNil)))
abbrev lb__law_close_4 : SS := (sSeq (sSet 7 (eCall F__law_mirror (aCons (eVar 6) (aCons (eVar 2) aNil)))) (sSeq (sIf (bVal (eTIn true (eCB gTuple (aCons (eVar 7) aNil)) (eVar 1))) (sSeq (sPutT 1 (eBl true) (eCB gTuple (aCons (eVar 7) aNil))) (sSeq (sMut 5 gApp (eVar 7)) sNil)) sNil) sNil))
abbrev lb__law_close_3 : SS := (sSeq (sFor (iSeq (eVar 0)) (tgN 6) lb__law_close_4) sNil)
abbrev lb__law_close_2 : SS := (sSeq (sSet 5 (eLst aNil)) (sSeq (sFor (iSeq (eVar 3)) (tgN 2) lb__law_close_3) (sSeq (sSet 3 (eVar 5)) (sSeq (sIf (bCmp gEq (eCB gLen (aCons (eVar 3) aNil)) (eInt 0)) (sSeq sBrk sNil) sNil) sNil))))
section
variable {rows met : List (List Int)} (hr : ∀ r ∈ rows, r ∈ RT) (φ : Fd)
include hr
theorem cl_in {x : List Int} (hx : Gen rows x) {y2 : Option D} {st : List (List Int) × List (List Int)} {z5 z6 : Option D} (h : BI rows met st) :
    ∃ w5 w6, forGo (tgN 5) lb_closed_by_mirrors_3 (rows.map row) [some (rws rows), some (dD st.1), y2, some (rws st.2), some (row x), z5, z6] φ = .nx [some (rws rows), some (dD (stps rows st x).1), y2, some (rws (stps rows st x).2), some (row x), w5, w6] φ := by
  obtain ⟨ρ', h1, h2, z5', z6', rfl⟩ := for_fold (T := tgN 5) (φ := φ) (e := row) (B := lb_closed_by_mirrors_3) (fun st g => stp st (mir g x)) (fun s ρ => BI rows met s ∧ ∃ z5 z6, ρ = [some (rws rows), some (dD s.1), y2, some (rws s.2), some (row x), z5, z6]) rows st (ρ := [some (rws rows), some (dD st.1), y2, some (rws st.2), some (row x), z5, z6]) ⟨h, _, _, rfl⟩ (by
    rintro g hg s ρ ⟨hs, z5, z6, rfl⟩
    have hn := (hs.stp (x := mir g x) (.step hg hx)).1
    obtain ⟨l1, l2⟩ := hs.le hr
    have e1 := set_ok (i := 6) (ρ := [some (rws rows), some (dD s.1), y2, some (rws s.2), some (row x), some (row g), z6]) (call_ok (S := (aCons (eVar 5) (aCons (eVar 4) aNil))) (two_ok (v_ok rfl) (v_ok rfl)) (s_mir φ (hr g hg) (RT_sm (hx.root hr))))
    have t : bVal (eTIn true (eCB gTuple (aCons (eVar 6) aNil)) (eVar 1)) [some (rws rows), some (dD s.1), y2, some (rws s.2), some (row x), some (row g), some (row (mir g x))] φ = .ok (!decide (mir g x ∈ s.1)) φ := tnot_ok (f := T1) (tupl_ok (v_ok rfl)) (v_ok rfl) rfl
    refine ⟨_, rfl, ?_⟩
    by_cases hm : mir g x ∈ s.1
    · have e : stp s (mir g x) = s := if_pos hm
      refine ⟨_, .inl (seq_nx e1 (seq_one (if_skip (t.trans (by rw [decide_eq_true hm]; rfl))))), ?_⟩
      rw [e]
      exact ⟨hs, _, _, rfl⟩
    · have e : stp s (mir g x) = (s.1 ++ [mir g x], s.2 ++ [mir g x]) := if_neg hm
      have pm : putR s.1 (mir g x) = s.1 ++ [mir g x] := if_neg hm
      refine ⟨_, .inl (seq_nx e1 (seq_one (if_yes (t.trans (by rw [decide_eq_false hm]; rfl)) (seq_nx (putT_ok (f := T1) (x := mir g x) rfl rfl (tupl_ok (v_ok rfl)) (by omega)) (seq_one (app_r rfl (v_ok rfl) (by omega))))))), hn, ?_⟩
      rw [e, pm]
      exact ⟨_, _, rfl⟩)
  exact ⟨_, _, h1⟩
theorem cl_turn {st : List (List Int) × List (List Int)} (h : BS rows st) {z3 z4 z5 z6 : Option D} :
    ∃ w4 w5 w6, lb_closed_by_mirrors_1 [some (rws rows), some (dD st.1), some (rws st.2), z3, z4, z5, z6] φ = .nx [some (rws rows), some (dD (trn rows st.1 st.2).1), some (rws (trn rows st.1 st.2).2), some (rws (trn rows st.1 st.2).2), w4, w5, w6] φ := by
  have b0 : BI rows st.1 (st.1, []) := ⟨fun x hx => hx, fun x => by simp, h.gen, h.nd, rfl⟩
  obtain ⟨ρ', h1, h2, z4', z5', z6', rfl⟩ := for_fold (T := tgN 4) (φ := φ) (e := row) (B := lb_closed_by_mirrors_2) (stps rows) (fun s ρ => BI rows st.1 s ∧ ∃ z4 z5 z6, ρ = [some (rws rows), some (dD s.1), some (rws st.2), some (rws s.2), z4, z5, z6]) st.2 (st.1, []) (ρ := [some (rws rows), some (dD st.1), some (rws st.2), some (.lst []), z4, z5, z6]) ⟨b0, _, _, _, rfl⟩ (by
    rintro x hx s ρ ⟨hs, z4, z5, z6, rfl⟩
    have gx := h.gen x (h.lin x hx)
    obtain ⟨w5, w6, e⟩ := cl_in hr φ gx (y2 := some (rws st.2)) (z5 := z5) (z6 := z6) hs
    exact ⟨_, rfl, _, .inl (seq_one (for_ok (seq_l (v_ok rfl)) e)), (BI.stps gx (gs := rows) (fun g hg => hg) hs).1, _, _, _, rfl⟩)
  exact ⟨_, _, _, seq_nx (set_ok rfl) (seq_nx (for_ok (seq_l (v_ok rfl)) h1) (seq_one (set_ok (v_ok rfl))))⟩
theorem tru_rows {ρ : En} {φ : Fd} {A : SX} {l : List (List Int)} (h : A ρ φ = .ok (rws l) φ) : bTru A ρ φ = .ok (!l.isEmpty) φ := by
  cases l <;> exact tru_ok h rfl
theorem cl_while : ∀ (n : Nat) {st : List (List Int) × List (List Int)}, BS rows st → (241 ≤ n + st.1.length ∨ st.2 = []) → ∀ (N : Nat), n + 1 ≤ N → ∀ z3 z4 z5 z6,
    ∃ w2 w3 w4 w5 w6, whGo (bTru (eVar 2)) lb_closed_by_mirrors_1 N [some (rws rows), some (dD st.1), some (rws st.2), z3, z4, z5, z6] φ = .nx [some (rws rows), some (dD (bfs rows n st)), w2, w3, w4, w5, w6] φ := by
  intro n
  induction n with
  | zero =>
    intro st h q N hN z3 z4 z5 z6
    obtain ⟨M, rfl⟩ : ∃ M, N = M + 1 := ⟨N - 1, by omega⟩
    have e : st.2 = [] := by
      rcases q with q | q
      · have := h.le hr; omega
      · exact q
    exact ⟨_, _, _, _, _, wh_end ((tru_rows hr (l := st.2) (v_ok rfl)).trans (by rw [e]; rfl))⟩
  | succ n ih =>
    intro st h q N hN z3 z4 z5 z6
    obtain ⟨M, rfl⟩ : ∃ M, N = M + 1 := ⟨N - 1, by omega⟩
    by_cases e : st.2 = []
    · have e1 : bfs rows (n + 1) st = st.1 := if_pos e
      rw [e1]
      exact ⟨_, _, _, _, _, wh_end ((tru_rows hr (l := st.2) (v_ok rfl)).trans (by rw [e]; rfl))⟩
    · have e1 : bfs rows (n + 1) st = bfs rows n (trn rows st.1 st.2) := if_neg e
      rw [e1]
      obtain ⟨a1, a2, a3⟩ := h.next
      obtain ⟨w4, w5, w6, hb⟩ := cl_turn hr φ h (z3 := z3) (z4 := z4) (z5 := z5) (z6 := z6)
      have hn : 241 ≤ n + (trn rows st.1 st.2).1.length ∨ (trn rows st.1 st.2).2 = [] := by
        by_cases e2 : (trn rows st.1 st.2).2 = []
        · exact .inr e2
        · refine .inl ?_
          have := List.length_pos_iff.mpr e2
          rcases q with q | q
          · omega
          · exact absurd q e
      obtain ⟨y2, y3, y4, y5, y6, hw⟩ := ih a1 hn M (by omega) (some (rws (trn rows st.1 st.2).2)) w4 w5 w6
      have ne : (!st.2.isEmpty) = true := by cases hh : st.2 with
        | nil => exact absurd hh e
        | cons _ _ => rfl
      exact ⟨y2, y3, y4, y5, y6, (wh_step ((tru_rows hr (l := st.2) (v_ok rfl)).trans (by rw [ne])) hb).trans hw⟩
omit hr
theorem td_rows {ρ : En} {k : Nat} (hk : ∀ z : D, (ρ.set k (some z))[k]? = some (some z)) (hset : ∀ x : List Int, tgN k (row x) ρ = some (ρ.set k (some (row x)))) : ∀ (xs acc : List (List Int)), acc.length + xs.length ≤ 1000000 →
    tdGo (tgN k) bYes (eCB gTuple (aCons (eVar k) aNil)) (eBl true) ρ (xs.map row) (dm T1 acc) φ = .ok (dm T1 (xs.foldl put1 acc)) φ
  | [], acc, _ => rfl
  | x :: xs, acc, hl => by
    have t : eCB gTuple (aCons (eVar k) aNil) (ρ.set k (some (row x))) φ = .ok (tp x) φ := tupl_ok (v_ok (hk _))
    have hl' : acc.length + (xs.length + 1) ≤ 1000000 := hl
    have h2 : (put1 acc x).length ≤ acc.length + 1 := by
      unfold put1
      split
      · omega
      · rw [List.length_append]; exact Nat.le_refl _
    rw [List.map_cons]
    unfold tdGo
    simp only [hset, bYes, t, eBl, keyT_tp]
    rw [if_pos (size_lt (by unfold dm; rw [List.length_map]; omega))]
    have : putT (dm T1 acc) (keyL x) (.bl true) = dm T1 (put1 acc x) := putT_dm (f := T1) acc
    rw [this]
    exact td_rows hk hset xs (put1 acc x) (by omega)
end
end Pf

set_option Elab.async false
set_option linter.all false
set_option maxRecDepth 100000
set_option maxHeartbeats 4000000
namespace Pf
open PySem PySem.Spec PyProof.Rows L2

theorem sort_rows (l : List (List Int)) : gSorted [rws l] = some (rws (l.mergeSort (leL ltR))) := emb_row.gSorted (by decide) l
theorem put1_len : ∀ (xs acc : List (List Int)), (xs.foldl put1 acc).length ≤ acc.length + xs.length
  | [], acc => Nat.le_refl _
  | x :: xs, acc => by
    have h := put1_len xs (put1 acc x)
    have h2 : (put1 acc x).length ≤ acc.length + 1 := by
      unfold put1
      split
      · omega
      · rw [List.length_append]; exact Nat.le_refl _
    rw [List.foldl_cons, List.length_cons]
    omega
section
variable {rows : List (List Int)} (hr : ∀ r ∈ rows, r ∈ RT) (hl : rows.length ≤ 1000) (φ : Fd)
include hr hl
theorem f_closed : F_closed_by_mirrors [rws rows] φ = .ok (rws (clo rows)) φ := by
  have hu : (uq rows).length ≤ 1000 := by have := put1_len rows []; unfold uq; simp at this; omega
  have e1 : eTdc (iSeq (eVar 0)) (tgN 4) bYes (eCB gTuple (aCons (eVar 4) aNil)) (eBl true) [4] [some (rws rows), none, none, none, none, none, none] φ = .ok (dD (uq rows)) φ := by
    unfold eTdc
    rw [seq_l (l := rows.map row) (v_ok rfl)]
    have := td_rows φ (ρ := [some (rws rows), none, none, none, none, none, none]) (k := 4) (fun _ => rfl) (fun _ => rfl) rows [] (by simp; omega)
    show (match tdGo (tgN 4) bYes (eCB gTuple (aCons (eVar 4) aNil)) (eBl true) [some (rws rows), none, none, none, none, none, none] (rows.map row) (dm T1 []) φ with
      | .ok l φ2 => O.ok (D.dt l) φ2
      | _ => .bad) = _
    rw [this]
    rfl
  have e2 : (sSeq (sSet 2 (eLc (iKeysD (eVar 1)) (tgN 4) bYes (eCB gList (aCons (eVar 4) aNil)) [4])) sNil) [some (rws rows), some (.dz (dm T1 (uq rows))), none, none, none, none, none] φ = .nx [some (rws rows), some (.dz (dm T1 (uq rows))), some (rws (uq rows)), none, none, none, none] φ :=
    seq_one (set_ok (lists_ok rfl (by omega) fun _ => rfl))
  have hc := cls0_ok hr
  obtain ⟨w2, w3, w4, w5, w6, h3⟩ := cl_while hr φ 240 (uq_bs rows) (by
    by_cases e : uq rows = []
    · exact .inr e
    · have := List.length_pos_iff.mpr e
      exact .inl (by show 241 ≤ 240 + (uq rows).length; omega)) 4096 (by decide) none none none none
  have e4 : eCB gSorted (aCons (ePeek 1 (eLc (iKeysD (eVar 1)) (tgN 4) bYes (eCB gList (aCons (eVar 4) aNil)) [4])) aNil) [some (rws rows), some (dD (cls0 rows)), w2, w3, w4, w5, w6] φ = .ok (rws (clo rows)) φ :=
    cb1_ok (peek_ok rfl (lists_ok rfl (by have := (clo_len hr).2; omega) fun _ => rfl) (nz_rws _)) (sort_rows _)
  refine run_rt (seq_nx (set_ok e1) (peekK_nx rfl e2 ?_ rfl (seq_nx h3 (seq_rt (ret_ok e4)))))
  show (nzX (some (rws (uq rows))) && true) = true
  rw [show nzX (some (rws (uq rows))) = true from nz_rws _]; rfl
theorem lc_in {met : List (List Int)} {x : List Int} (hx : Gen rows x) {y3 y4 : Option D} {st : List (List Int) × List (List Int)} {z6 z7 : Option D} (h : BI rows met st) :
    ∃ w6 w7, forGo (tgN 6) lb__law_close_4 (rows.map row) [some (rws rows), some (dD st.1), some (row x), y3, y4, some (rws st.2), z6, z7] φ = .nx [some (rws rows), some (dD (stps rows st x).1), some (row x), y3, y4, some (rws (stps rows st x).2), w6, w7] φ := by
  obtain ⟨ρ', h1, h2, z5', z6', rfl⟩ := for_fold (T := tgN 6) (φ := φ) (e := row) (B := lb__law_close_4) (fun st g => stp st (mir g x)) (fun s ρ => BI rows met s ∧ ∃ z6 z7, ρ = [some (rws rows), some (dD s.1), some (row x), y3, y4, some (rws s.2), z6, z7]) rows st (ρ := [some (rws rows), some (dD st.1), some (row x), y3, y4, some (rws st.2), z6, z7]) ⟨h, _, _, rfl⟩ (by
    rintro g hg s ρ ⟨hs, z6, z7, rfl⟩
    have hn := (hs.stp (x := mir g x) (.step hg hx)).1
    obtain ⟨l1, l2⟩ := hs.le hr
    have e1 := set_ok (i := 7) (ρ := [some (rws rows), some (dD s.1), some (row x), y3, y4, some (rws s.2), some (row g), z7]) (call_ok (S := (aCons (eVar 6) (aCons (eVar 2) aNil))) (two_ok (v_ok rfl) (v_ok rfl)) (s_lmir φ (hr g hg) (RT_sm (hx.root hr))))
    have t : bVal (eTIn true (eCB gTuple (aCons (eVar 7) aNil)) (eVar 1)) [some (rws rows), some (dD s.1), some (row x), y3, y4, some (rws s.2), some (row g), some (row (mir g x))] φ = .ok (!decide (mir g x ∈ s.1)) φ := tnot_ok (f := T1) (tupl_ok (v_ok rfl)) (v_ok rfl) rfl
    refine ⟨_, rfl, ?_⟩
    by_cases hm : mir g x ∈ s.1
    · have e : stp s (mir g x) = s := if_pos hm
      refine ⟨_, .inl (seq_nx e1 (seq_one (if_skip (t.trans (by rw [decide_eq_true hm]; rfl))))), ?_⟩
      rw [e]
      exact ⟨hs, _, _, rfl⟩
    · have e : stp s (mir g x) = (s.1 ++ [mir g x], s.2 ++ [mir g x]) := if_neg hm
      have pm : putR s.1 (mir g x) = s.1 ++ [mir g x] := if_neg hm
      refine ⟨_, .inl (seq_nx e1 (seq_one (if_yes (t.trans (by rw [decide_eq_false hm]; rfl)) (seq_nx (putT_ok (f := T1) (x := mir g x) rfl rfl (tupl_ok (v_ok rfl)) (by omega)) (seq_one (app_r rfl (v_ok rfl) (by omega))))))), hn, ?_⟩
      rw [e, pm]
      exact ⟨_, _, rfl⟩)
  exact ⟨_, _, h1⟩
theorem lc_turn {st : List (List Int) × List (List Int)} (h : BS rows st) {z2 z4 z5 z6 z7 : Option D} :
    ∃ w2 w6 w7, lb__law_close_2 [some (rws rows), some (dD st.1), z2, some (rws st.2), z4, z5, z6, z7] φ =
      (if (trn rows st.1 st.2).2 = [] then R.bk [some (rws rows), some (dD (trn rows st.1 st.2).1), w2, some (rws (trn rows st.1 st.2).2), z4, some (rws (trn rows st.1 st.2).2), w6, w7] φ else .nx [some (rws rows), some (dD (trn rows st.1 st.2).1), w2, some (rws (trn rows st.1 st.2).2), z4, some (rws (trn rows st.1 st.2).2), w6, w7] φ) := by
  have b0 : BI rows st.1 (st.1, []) := ⟨fun x hx => hx, fun x => by simp, h.gen, h.nd, rfl⟩
  obtain ⟨ρ', h1, h2, z2', z6', z7', rfl⟩ := for_fold (T := tgN 2) (φ := φ) (e := row) (B := lb__law_close_3) (stps rows) (fun s ρ => BI rows st.1 s ∧ ∃ z2 z6 z7, ρ = [some (rws rows), some (dD s.1), z2, some (rws st.2), z4, some (rws s.2), z6, z7]) st.2 (st.1, []) (ρ := [some (rws rows), some (dD st.1), z2, some (rws st.2), z4, some (.lst []), z6, z7]) ⟨b0, _, _, _, rfl⟩ (by
    rintro x hx s ρ ⟨hs, z2, z6, z7, rfl⟩
    have gx := h.gen x (h.lin x hx)
    obtain ⟨w5, w6, e⟩ := lc_in hr hl φ gx (y3 := some (rws st.2)) (y4 := z4) (z6 := z6) (z7 := z7) hs
    exact ⟨_, rfl, _, .inl (seq_one (for_ok (seq_l (v_ok rfl)) e)), (BI.stps gx (gs := rows) (fun g hg => hg) hs).1, _, _, _, rfl⟩)
  refine ⟨z2', z6', z7', ?_⟩
  have h1' : forGo (tgN 2) lb__law_close_3 (st.2.map row) [some (rws rows), some (dD st.1), z2, some (rws st.2), z4, some (.lst []), z6, z7] φ = .nx [some (rws rows), some (dD (trn rows st.1 st.2).1), z2', some (rws st.2), z4, some (rws (trn rows st.1 st.2).2), z6', z7'] φ := h1
  generalize trn rows st.1 st.2 = S at h1' ⊢
  have t : (bCmp gEq (eCB gLen (aCons (eVar 3) aNil)) (eInt 0)) [some (rws rows), some (dD S.1), z2', some (rws S.2), z4, some (rws S.2), z6', z7'] φ = .ok (decide ((S.2.length : Int) = 0)) φ := cmp_ok (cb1_ok (v_ok rfl) gLen_rows) rfl (eq_int _ _)
  have pre : ∀ {rest : SS} {res : R}, rest [some (rws rows), some (dD S.1), z2', some (rws S.2), z4, some (rws S.2), z6', z7'] φ = res → sSeq (sSet 5 (eLst aNil)) (sSeq (sFor (iSeq (eVar 3)) (tgN 2) lb__law_close_3) (sSeq (sSet 3 (eVar 5)) rest)) [some (rws rows), some (dD st.1), z2, some (rws st.2), z4, z5, z6, z7] φ = res := fun h =>
    seq_nx (set_ok rfl) (seq_nx (for_ok (seq_l (v_ok rfl)) h1') (seq_nx (set_ok (v_ok rfl)) h))
  by_cases e : S.2 = []
  · rw [if_pos e]
    exact pre (seq_bk (if_yes (t.trans (by rw [e]; rfl)) (seq_bk rfl)))
  · rw [if_neg e]
    have := List.length_pos_iff.mpr e
    exact pre (seq_one (if_skip (t.trans (by rw [decide_eq_false (by omega)]))))
theorem lc_for {α : Type} {e : α → D} : ∀ (xs : List α) {st : List (List Int) × List (List Int)}, BS rows st → ∀ z2 z4 z5 z6 z7,
    ∃ w2 w3 w4 w5 w6 w7, forGo (tgN 4) lb__law_close_2 (xs.map e) [some (rws rows), some (dD st.1), z2, some (rws st.2), z4, z5, z6, z7] φ = .nx [some (rws rows), some (dD (bfs rows xs.length st)), w2, w3, w4, w5, w6, w7] φ
  | [], st, _, z2, z4, z5, z6, z7 => ⟨_, _, _, _, _, _, rfl⟩
  | x :: xs, st, h, z2, z4, z5, z6, z7 => by
    obtain ⟨w2, w6, w7, hb⟩ := lc_turn hr hl φ h (z2 := z2) (z4 := some (e x)) (z5 := z5) (z6 := z6) (z7 := z7)
    obtain ⟨a1, a2, a3⟩ := h.next
    have stop : ∀ (n : Nat) (S : List (List Int) × List (List Int)), S.2 = [] → bfs rows n S = S.1 := fun n S hS => by
      cases n with
      | zero => rfl
      | succ n => exact if_pos hS
    have one : bfs rows (xs.length + 1) st = bfs rows xs.length (trn rows st.1 st.2) := by
      by_cases q : st.2 = []
      · rw [stop _ st q]
        have : trn rows st.1 st.2 = (st.1, []) := by rw [q]; rfl
        rw [this, stop _ _ rfl]
      · exact if_neg q
    rw [List.length_cons, one, List.map_cons]
    unfold forGo
    show ∃ w2 w3 w4 w5 w6 w7, (match lb__law_close_2 [some (rws rows), some (dD st.1), z2, some (rws st.2), some (e x), z5, z6, z7] φ with
      | .nx ρ2 φ2 => forGo (tgN 4) lb__law_close_2 (xs.map e) ρ2 φ2
      | .ct ρ2 φ2 => forGo (tgN 4) lb__law_close_2 (xs.map e) ρ2 φ2
      | .bk ρ2 φ2 => .nx ρ2 φ2
      | .rt d φ2 => .rt d φ2
      | .ex x l ρ2 φ2 => .ex x l ρ2 φ2
      | .bad => .bad) = _
    rw [hb]
    by_cases q : (trn rows st.1 st.2).2 = []
    · rw [if_pos q, stop _ _ q]
      exact ⟨_, _, _, _, _, _, rfl⟩
    · rw [if_neg q]
      exact lc_for xs a1 _ _ _ _ _
theorem f_close : F__law_close [rws rows] φ = .ok (rws (clo rows)) φ := by
  have hu : (uq rows).length ≤ 1000 := by have := put1_len rows []; unfold uq; simp at this; omega
  obtain ⟨ρ', h1, ⟨hb, z, rfl⟩⟩ := for_inv (T := tgN 2) (φ := φ) (e := row) (B := (sSeq (sPutT 1 (eBl true) (eCB gTuple (aCons (eVar 2) aNil))) sNil)) (fun pre ρ => pre.length ≤ 1000 ∧ ∃ z, ρ = [some (rws rows), some (dD (pre.foldl put1 [])), z, none, none, none, none, none]) rows [] (ρ := [some (rws rows), some (.dt []), none, none, none, none, none, none]) ⟨by simp, _, rfl⟩ (by
    rintro pre x post ρ e ⟨hp, z, rfl⟩
    have hlen : (pre.foldl put1 []).length ≤ 1000 := by have := put1_len pre []; simp at this; omega
    have hp2 : (pre ++ [x]).length ≤ 1000 := by
      have : ([] ++ rows).length = (pre ++ x :: post).length := by rw [e]
      simp at this ⊢
      omega
    refine ⟨_, rfl, _, .inl (seq_one (putT_ok (f := T1) (x := x) rfl rfl (tupl_ok (v_ok rfl)) (by omega))), hp2, some (row x), ?_⟩
    rw [List.foldl_append]
    rfl)
  have e2 : (sSeq (sSet 3 (eLc (iKeysD (eVar 1)) (tgN 2) bYes (eCB gList (aCons (eVar 2) aNil)) [2])) sNil) [some (rws rows), some (.dz (dm T1 (uq rows))), z, none, none, none, none, none] φ = .nx [some (rws rows), some (.dz (dm T1 (uq rows))), z, some (rws (uq rows)), none, none, none, none] φ :=
    seq_one (set_ok (lists_ok rfl (by omega) fun _ => rfl))
  obtain ⟨w2, w3, w4, w5, w6, w7, h3⟩ := lc_for hr hl φ (e := fun (k : Nat) => D.int k) (List.range 240) (uq_bs rows) z none none none none
  rw [List.length_range] at h3
  have e4 : eCB gSorted (aCons (ePeek 1 (eLc (iKeysD (eVar 1)) (tgN 2) bYes (eCB gList (aCons (eVar 2) aNil)) [2])) aNil) [some (rws rows), some (dD (cls0 rows)), w2, w3, w4, w5, w6, w7] φ = .ok (rws (clo rows)) φ :=
    cb1_ok (peek_ok rfl (lists_ok rfl (by have := (clo_len hr).2; omega) fun _ => rfl) (nz_rws _)) (sort_rows _)
  refine run_rt (seq_nx (set_ok rfl) (seq_nx (for_ok (seq_l (v_ok rfl)) h1) (peekK_nx (l := uq rows) rfl e2 ?_ rfl (seq_nx (for_ok (rg1_ok (n := 240) rfl (by decide)) h3) (seq_rt (ret_ok e4))))))
  show (nzX (some (rws (uq rows))) && true) = true
  rw [show nzX (some (rws (uq rows))) = true from nz_rws _]; rfl
end
end Pf

set_option Elab.async false
set_option linter.all false
set_option maxRecDepth 100000
set_option maxHeartbeats 4000000
namespace Pf
open PySem PySem.Spec PyProof.Rows L2

/-! ## evaluation: rounds -/
theorem par_ok {i j : Nat} {A : SA} {ρ : En} {φ φ1 : Fd} {d e : D} (h : A ρ φ = .ok [d, e] φ1) : sPar i j A ρ φ = .nx ((ρ.set i (some d)).set j (some e)) φ1 := by unfold sPar; rw [h]; rfl
abbrev lb_round_of_mirrors_1 : SS := (sSeq (sSet 2 (eLc (iSeq (eVar 2)) (tgN 4) bYes (eCall F_mirrored_by (aCons (eVar 0) (aCons (eVar 4) aNil))) [4])) (sSeq (sAug 3 (fun i j => i + j) (eInt 1)) sNil))
theorem BR_len : BR.length = 8 := rfl
section
variable {rows : List (List Int)} (hr : ∀ r ∈ rows, r ∈ RT) (φ : Fd)
include hr
theorem rd_while : ∀ (k t N : Nat), t + k = rnd (mby rows) → 1 ≤ t → k + 1 ≤ N → ∀ z4, ∃ w4,
    whGo (bCmp gNe (eVar 2) (eVar 1)) lb_round_of_mirrors_1 N [some (rws rows), some (rws BR), some (rws (BR.map (itr (mby rows) t))), some (.int (t : Int)), z4] φ = .nx [some (rws rows), some (rws BR), some (rws BR), some (.int (rnd (mby rows) : Int)), w4] φ := by
  have F := mby_orth hr
  obtain ⟨r1, _, r3, r4⟩ := rnd_ok F
  generalize rnd (mby rows) = TT0 at r1 r3 r4 ⊢
  intro k
  induction k with
  | zero =>
    intro t N e ht hN z4
    obtain ⟨M, rfl⟩ : ∃ M, N = M + 1 := ⟨N - 1, by omega⟩
    have : t = TT0 := by omega
    subst this
    rw [r3]
    have c : (bCmp gNe (eVar 2) (eVar 1)) [some (rws rows), some (rws BR), some (rws BR), some (.int (t : Int)), z4] φ = .ok false φ := cmp_ok (v_ok rfl) (v_ok rfl) (ne_false emb_rws (by decide) BR)
    exact ⟨z4, wh_end c⟩
  | succ k ih =>
    intro t N e ht hN z4
    obtain ⟨M, rfl⟩ : ∃ M, N = M + 1 := ⟨N - 1, by omega⟩
    have ne : BR.map (itr (mby rows) t) ≠ BR := r4 t ht (by omega)
    have c : (bCmp gNe (eVar 2) (eVar 1)) [some (rws rows), some (rws BR), some (rws (BR.map (itr (mby rows) t))), some (.int (t : Int)), z4] φ = .ok true φ := cmp_ok (v_ok rfl) (v_ok rfl) ((emb_rws.gNe (by decide) _ _).trans (by rw [decide_eq_false ne]; rfl))
    have e1 : eLc (iSeq (eVar 2)) (tgN 4) bYes (eCall F_mirrored_by (aCons (eVar 0) (aCons (eVar 4) aNil))) [4] [some (rws rows), some (rws BR), some (rws (BR.map (itr (mby rows) t))), some (.int (t : Int)), z4] φ = .ok (rws (BR.map (itr (mby rows) (t + 1)))) φ := by
      rw [lcm_ok (BR.map (itr (mby rows) t)) row (fun x => row (mby rows x)) (seq_l (v_ok rfl)) (size_le (by rw [List.length_map, BR_len]; decide)) fun x hx => ⟨_, rfl, call_ok (two_ok (v_ok rfl) (v_ok rfl)) (f_mby φ hr (by
        obtain ⟨b, hb, rfl⟩ := List.mem_map.mp hx
        exact RT_sm ((F.itr t).rt b (BR_RT b hb))))⟩]
      unfold rws
      rw [List.map_map, List.map_map]
      rfl
    obtain ⟨w4, hw⟩ := ih (t + 1) M (by omega) (by omega) (by omega) z4
    refine ⟨w4, (wh_step c (seq_nx (set_ok e1) (seq_one (aug_ok (n := (t : Int)) (m := 1) rfl rfl)))).trans ?_⟩
    exact hw
theorem f_round : F_round_of_mirrors [rws rows] φ = .ok (.int (rnd (mby rows) : Int)) φ := by
  have F := mby_orth hr
  obtain ⟨r1, r2, r3, r4⟩ := rnd_ok F
  have e1 : eLc (iSeq (eVar 1)) (tgN 4) bYes (eCall F_mirrored_by (aCons (eVar 0) (aCons (eVar 4) aNil))) [4] [some (rws rows), some (rws BR), none, none, none] φ = .ok (rws (BR.map (itr (mby rows) 1))) φ := by
    rw [lcm_ok BR row (fun x => row (mby rows x)) (seq_l (v_ok rfl)) (size_le (by rw [BR_len]; decide)) fun x hx => ⟨_, rfl, call_ok (two_ok (v_ok rfl) (v_ok rfl)) (f_mby φ hr (RT_sm (BR_RT x hx)))⟩]
    unfold rws
    rw [List.map_map]
    rfl
  have big : (240 : Nat) ^ 8 = 11007531417600000000 := by decide
  have hN : rnd (mby rows) - 1 + 1 ≤ 11007531417600000001 := by omega
  obtain ⟨w4, hw⟩ := rd_while hr φ (rnd (mby rows) - 1) 1 11007531417600000001 (by omega) (Nat.le_refl _) hN none
  exact run_rt (seq_nx (set_ok (call0_ok (f_base φ))) (seq_nx (set_ok e1) (seq_nx (set_ok rfl) (seq_nx hw (seq_rt (ret_ok (v_ok rfl)))))))
omit hr
end
end Pf

set_option Elab.async false
set_option linter.all false
set_option maxRecDepth 100000
set_option maxHeartbeats 400000
namespace Pf
open PySem PySem.Spec PyProof.Rows L2

/-! ### the law's -/
theorem wks_front (f : List Int → List Int) (st : Wk) : ∀ n, wks f n (wk1 f st) = wks f (n + 1) st
  | 0 => rfl
  | n + 1 => by
    show wk1 f (wks f n (wk1 f st)) = wk1 f (wks f (n + 1) st)
    rw [wks_front f st n]
theorem wks_fold {α : Type} (f : List Int → List Int) : ∀ (l : List α) (st : Wk), l.foldl (fun st _ => wk1 f st) st = wks f l.length st
  | [], st => rfl
  | x :: l, st => by rw [List.foldl_cons, wks_fold f l, wks_front]; rfl
theorem gss_fold {α : Type} : ∀ (l : List α) (st : Nat × Nat), l.foldl (fun st _ => gs1 st) st = gss l.length st
  | [], st => rfl
  | x :: l, st => by rw [List.foldl_cons, gss_fold l]; rfl
abbrev lb__law_round_2 : SS := (sSeq (sSet 4 (eCall F__law_mirror (aCons (eVar 5) (aCons (eVar 4) aNil)))) sNil)
abbrev lb__law_round_1 : SS := (sSeq (sSet 4 (eVar 3)) (sSeq (sFor (iSeq (eVar 1)) (tgN 5) lb__law_round_2) (sSeq (sPutT 2 (eCB gTuple (aCons (eVar 4) aNil)) (eCB gTuple (aCons (eVar 3) aNil))) sNil)))
abbrev lb__law_round_4 : SS := (sSeq (sIf (bVal (eTIn true (eVar 4) (eVar 7))) (sSeq (sPutT 7 (eBl true) (eVar 4)) (sSeq (sAug 8 (fun i j => i + j) (eInt 1)) (sSeq (sSet 4 (eTIx (eVar 2) (eVar 4))) sNil))) sNil) sNil)
abbrev lb__law_round_5 : SS := (sSeq (sIf (bCmp gGtA (eVar 11) (eInt 0)) (sSeq (sPar 10 11 (aCons (eVar 11) (aCons (eBin gMod (eCB gInt (aCons (eVar 10) aNil)) (eVar 11)) aNil))) sNil) sNil) sNil)
abbrev lb__law_round_3 : SS := (sSeq (sIf (bVal (eTIn true (eVar 3) (eVar 7))) (sSeq (sSet 8 (eInt 0)) (sSeq (sSet 4 (eVar 3)) (sSeq (sFor (iRg1 (aCons (eInt 240) aNil)) (tgN 9) lb__law_round_4) (sSeq (sPar 10 11 (aCons (eVar 6) (aCons (eVar 8) aNil))) (sSeq (sFor (iRg1 (aCons (eInt 20) aNil)) (tgN 9) lb__law_round_5) (sSeq (sSet 6 (eBin gDiv (eBin gMul (eVar 6) (eVar 8)) (eVar 10))) sNil)))))) sNil) sNil)
def GO (rows : List (List Int)) : List Int → D := fun x => tp (mby rows x)
structure W3 (st : Wk) : Prop where
  nd : st.1.Nodup
  rt : ∀ y ∈ st.1, y ∈ RT
  h : st.2.2 ∈ RT
theorem W3.len {st : Wk} (w : W3 st) : st.1.length ≤ 240 := by
  rw [← RT_len]
  exact sub_len w.nd w.rt
theorem W3.step {f : List Int → List Int} (F : Orth f) {st : Wk} (w : W3 st) : W3 (wk1 f st) := by
  unfold wk1
  by_cases h : st.2.2 ∈ st.1
  · rw [if_pos h]; exact w
  · rw [if_neg h]
    refine ⟨?_, fun y hy => ?_, F.rt _ w.h⟩
    · rw [List.nodup_append]
      exact ⟨w.nd, by simp, fun a ha b hb e => h (by rw [← List.mem_singleton.mp hb, ← e]; exact ha)⟩
    · rcases List.mem_append.mp hy with q | q
      · exact w.rt y q
      · rw [List.mem_singleton.mp q]; exact w.h
section
variable {rows : List (List Int)} (hr : ∀ r ∈ rows, r ∈ RT) (φ : Fd)
include hr
theorem lr_one {x : List Int} (hx : x ∈ RT) {y0 : Option D} {pre : List (List Int)} (hp : pre.length ≤ 1000) {z4 z5 : Option D} {tl : En} :
    ∃ w4 w5, lb__law_round_1 ([y0, some (rws rows), some (.dt (dm (GO rows) pre)), some (row x), z4, z5] ++ tl) φ = .nx ([y0, some (rws rows), some (.dt (dm (GO rows) (putR pre x))), some (row x), w4, w5] ++ tl) φ := by
  obtain ⟨ρ', h1, hs, z, rfl⟩ := for_fold (T := tgN 5) (φ := φ) (e := row) (B := lb__law_round_2) (fun y g => mir g y) (fun y ρ => y ∈ RT ∧ ∃ z, ρ = [y0, some (rws rows), some (.dt (dm (GO rows) pre)), some (row x), some (row y), z] ++ tl) rows x (ρ := [y0, some (rws rows), some (.dt (dm (GO rows) pre)), some (row x), some (row x), z5] ++ tl) ⟨hx, _, rfl⟩ (by
    rintro g hg y ρ ⟨hy, z, rfl⟩
    exact ⟨_, rfl, _, .inl (seq_one (set_ok (call_ok (two_ok (v_ok rfl) (v_ok rfl)) (s_lmir φ (hr g hg) (RT_sm hy))))), mir_RT (hr g hg) hy, _, rfl⟩)
  exact ⟨_, _, seq_nx (set_ok (v_ok rfl)) (seq_nx (for_ok (seq_l (v_ok rfl)) h1) (seq_one (putT_ok (f := GO rows) (x := x) rfl (tupl_ok (v_ok rfl)) (tupl_ok (v_ok rfl)) (by omega))))⟩
theorem lr_walk {st : Wk} (w : W3 st) {y0 y1 y3 y5 y6 z9 y10 y11 : Option D} :
    ∃ w9, forGo (tgN 9) lb__law_round_4 ((List.range 240).map fun (k : Nat) => D.int k) [y0, y1, some (.dz (dm (GO rows) RT)), y3, some (tp st.2.2), y5, y6, some (dD st.1), some (.int (st.2.1 : Int)), z9, y10, y11] φ =
      .nx [y0, y1, some (.dz (dm (GO rows) RT)), y3, some (tp (wks (mby rows) 240 st).2.2), y5, y6, some (dD (wks (mby rows) 240 st).1), some (.int ((wks (mby rows) 240 st).2.1 : Int)), w9, y10, y11] φ ∧ W3 (wks (mby rows) 240 st) := by
  have F := mby_orth hr
  obtain ⟨ρ', h1, h2, z, rfl⟩ := for_fold (T := tgN 9) (φ := φ) (e := fun (k : Nat) => D.int k) (B := lb__law_round_4) (fun st _ => wk1 (mby rows) st) (fun s ρ => W3 s ∧ ∃ z9, ρ = [y0, y1, some (.dz (dm (GO rows) RT)), y3, some (tp s.2.2), y5, y6, some (dD s.1), some (.int (s.2.1 : Int)), z9, y10, y11]) (List.range 240) st (ρ := [y0, y1, some (.dz (dm (GO rows) RT)), y3, some (tp st.2.2), y5, y6, some (dD st.1), some (.int (st.2.1 : Int)), z9, y10, y11]) ⟨w, _, rfl⟩ (by
    rintro k hk s ρ ⟨ws, z9, rfl⟩
    have t : bVal (eTIn true (eVar 4) (eVar 7)) [y0, y1, some (.dz (dm (GO rows) RT)), y3, some (tp s.2.2), y5, y6, some (dD s.1), some (.int (s.2.1 : Int)), some (.int k), y10, y11] φ = .ok (!decide (s.2.2 ∈ s.1)) φ := tnot_ok (f := T1) (v_ok rfl) (v_ok rfl) rfl
    refine ⟨_, rfl, ?_⟩
    have wn := ws.step F
    have wl := ws.len
    unfold wk1 at wn ⊢
    by_cases h : s.2.2 ∈ s.1
    · rw [if_pos h]
      exact ⟨_, .inl (seq_one (if_skip (t.trans (by rw [decide_eq_true h]; rfl)))), ws, _, rfl⟩
    · rw [if_neg h] at wn ⊢
      have pm : putR s.1 s.2.2 = s.1 ++ [s.2.2] := if_neg h
      have e2 := putT_ok (i := 7) (A := eBl true) (B := eVar 4) (φ := φ) (f := T1) (x := s.2.2) (l := s.1) (ρ := [y0, y1, some (.dz (dm (GO rows) RT)), y3, some (tp s.2.2), y5, y6, some (dD s.1), some (.int (s.2.1 : Int)), some (.int k), y10, y11]) rfl rfl (v_ok rfl) (by omega)
      rw [pm] at e2
      refine ⟨_, .inl (seq_one (if_yes (t.trans (by rw [decide_eq_false h]; rfl)) (seq_nx e2 (seq_nx (aug_ok (n := (s.2.1 : Int)) (m := 1) rfl rfl) (seq_one (set_ok (tix_ok (f := GO rows) (x := s.2.2) (l := RT) (v_ok rfl) (v_ok rfl) rfl ws.h))))))), wn, some (.int k), ?_⟩
      show _ = [y0, y1, some (.dz (dm (GO rows) RT)), y3, some (tp (mby rows s.2.2)), y5, y6, some (dD (s.1 ++ [s.2.2])), some (.int ((s.2.1 + 1 : Nat) : Int)), some (.int k), y10, y11]
      rfl)
  rw [wks_fold, List.length_range] at h2
  rw [wks_fold, List.length_range] at h1
  exact ⟨_, h1, h2⟩
omit hr
theorem lr_gcd {n s : Nat} {y0 y1 y2 y3 y4 y5 y6 y7 y8 z9 : Option D} :
    ∃ w9, forGo (tgN 9) lb__law_round_5 ((List.range 20).map fun (k : Nat) => D.int k) [y0, y1, y2, y3, y4, y5, y6, y7, y8, z9, some (.int (n : Int)), some (.int (s : Int))] φ =
      .nx [y0, y1, y2, y3, y4, y5, y6, y7, y8, w9, some (.int ((gss 20 (n, s)).1 : Int)), some (.int ((gss 20 (n, s)).2 : Int))] φ := by
  obtain ⟨ρ', h1, z, rfl⟩ := for_fold (T := tgN 9) (φ := φ) (e := fun (k : Nat) => D.int k) (B := lb__law_round_5) (fun st _ => gs1 st) (fun (st : Nat × Nat) ρ => ∃ z9, ρ = [y0, y1, y2, y3, y4, y5, y6, y7, y8, z9, some (.int (st.1 : Int)), some (.int (st.2 : Int))]) (List.range 20) (n, s) (ρ := [y0, y1, y2, y3, y4, y5, y6, y7, y8, z9, some (.int (n : Int)), some (.int (s : Int))]) ⟨_, rfl⟩ (by
    rintro k hk st ρ ⟨z9, rfl⟩
    have t : (bCmp gGtA (eVar 11) (eInt 0)) [y0, y1, y2, y3, y4, y5, y6, y7, y8, some (.int k), some (.int (st.1 : Int)), some (.int (st.2 : Int))] φ = .ok (decide ((0 : Int) < (st.2 : Int))) φ := cmp_ok (v_ok rfl) rfl rfl
    refine ⟨_, rfl, ?_⟩
    unfold gs1
    by_cases h : 0 < st.2
    · rw [if_pos h]
      refine ⟨_, .inl (seq_one (if_yes (t.trans (by rw [decide_eq_true (by omega)])) (seq_one (par_ok (two_ok (v_ok rfl) (bin_ok (cb1_ok (v_ok rfl) rfl) (v_ok rfl) (gMod_ok (by omega)))))))), some (.int k), ?_⟩
      have : ((st.1 : Int).fmod (st.2 : Int)) = ((st.1 % st.2 : Nat) : Int) := by
        rw [Int.fmod_eq_emod_of_nonneg _ (by omega)]
        rfl
      rw [this]
      rfl
    · rw [if_neg h]
      exact ⟨_, .inl (seq_one (if_skip (t.trans (by rw [decide_eq_false (by omega)])))), _, rfl⟩)
  rw [gss_fold, List.length_range] at h1
  exact ⟨_, h1⟩
end
end Pf

set_option Elab.async false
set_option linter.all false
set_option maxRecDepth 100000
set_option maxHeartbeats 400000
namespace Pf
open PySem PySem.Spec PyProof.Rows L2

section
variable {rows : List (List Int)} (hr : ∀ r ∈ rows, r ∈ RT) (φ : Fd)
include hr
theorem rd_nodup {st : List (List Int) × Nat} (h : RI10 (mby rows) st) (hn : st.1.Nodup) {x : List Int} (hx : x ∈ RT) : (rd1 (mby rows) st x).1.Nodup := by
  have F := mby_orth hr
  unfold rd1
  by_cases hm : x ∈ st.1
  · rw [if_pos hm]; exact hn
  · rw [if_neg hm]
    have : ∀ n, W3 (wks (mby rows) n (st.1, 0, x)) := fun n => by
      induction n with
      | zero => exact ⟨hn, h.rt, hx⟩
      | succ n ih => exact ih.step F
    have w := (this 240).nd
    revert w
    generalize wks (mby rows) 240 (st.1, 0, x) = S
    exact fun w => w
theorem lr_body {st : List (List Int) × Nat} (h : RI10 (mby rows) st) (hn : st.1.Nodup) {x : List Int} (hx : x ∈ RT) {y0 y1 z4 z5 z8 z9 z10 z11 : Option D} :
    ∃ w4 w8 w9 w10 w11, lb__law_round_3 [y0, y1, some (.dz (dm (GO rows) RT)), some (tp x), z4, z5, some (.int (st.2 : Int)), some (dD st.1), z8, z9, z10, z11] φ =
      .nx [y0, y1, some (.dz (dm (GO rows) RT)), some (tp x), w4, z5, some (.int ((rd1 (mby rows) st x).2 : Int)), some (dD (rd1 (mby rows) st x).1), w8, w9, w10, w11] φ := by
  have F := mby_orth hr
  have t : bVal (eTIn true (eVar 3) (eVar 7)) [y0, y1, some (.dz (dm (GO rows) RT)), some (tp x), z4, z5, some (.int (st.2 : Int)), some (dD st.1), z8, z9, z10, z11] φ = .ok (!decide (x ∈ st.1)) φ := tnot_ok (f := T1) (v_ok rfl) (v_ok rfl) rfl
  unfold rd1
  by_cases hm : x ∈ st.1
  · rw [if_pos hm]
    exact ⟨_, _, _, _, _, seq_one (if_skip (t.trans (by rw [decide_eq_true hm]; rfl)))⟩
  · rw [if_neg hm]
    have w0 : W3 (st.1, 0, x) := ⟨hn, h.rt, hx⟩
    obtain ⟨w9, e1, w3⟩ := lr_walk hr φ w0 (y0 := y0) (y1 := y1) (y3 := some (tp x)) (y5 := z5) (y6 := some (.int (st.2 : Int))) (z9 := z9) (y10 := z10) (y11 := z11)
    obtain ⟨p, h1, h2, h3, h4, e⟩ := wk_end F h.cl hx hm
    have hs : (wks (mby rows) 240 (st.1, 0, x)).2.1 ≤ 240 := by rw [e]; exact h2
    have hs1 : 1 ≤ (wks (mby rows) 240 (st.1, 0, x)).2.1 := by rw [e]; exact h1
    have sm := rd_small F h
    have big : (240 : Nat) ^ 8 = 11007531417600000000 := by decide
    rw [big] at sm
    clear e big
    generalize wks (mby rows) 240 (st.1, 0, x) = S at e1 w3 hs hs1 ⊢
    obtain ⟨m, s, hh⟩ := S
    have hs' : s ≤ 240 := hs
    have hs1' : 1 ≤ s := hs1
    obtain ⟨v9, e2⟩ := lr_gcd φ (n := st.2) (s := s) (y0 := y0) (y1 := y1) (y2 := some (.dz (dm (GO rows) RT))) (y3 := some (tp x)) (y4 := some (tp hh)) (y5 := z5) (y6 := some (.int (st.2 : Int))) (y7 := some (dD m)) (y8 := some (.int (s : Int))) (z9 := w9)
    have hg : (gss 20 (st.2, s)).1 = Nat.gcd st.2 s := by rw [gss_ok 8 st.2 s 20 (by omega) (by decide)]
    have hgl : Nat.gcd st.2 s ≤ 240 := Nat.le_trans (Nat.le_of_dvd hs1' (Nat.gcd_dvd_right st.2 s)) hs'
    have hgp : 1 ≤ Nat.gcd st.2 s := Nat.gcd_pos_of_pos_right _ hs1'
    have e3 : eBin gDiv (eBin gMul (eVar 6) (eVar 8)) (eVar 10) [y0, y1, some (.dz (dm (GO rows) RT)), some (tp x), some (tp hh), z5, some (.int (st.2 : Int)), some (dD m), some (.int (s : Int)), v9, some (.int ((gss 20 (st.2, s)).1 : Int)), some (.int ((gss 20 (st.2, s)).2 : Int))] φ = .ok (.int (nxt st.2 s : Int)) φ := by
      refine bin_ok (bin_ok (v_ok rfl) (v_ok rfl) (gMul_ok' (by omega))) (v_ok rfl) ((gDiv_ok (by omega) (by omega)).trans ?_)
      unfold nxt
      rw [Int.fdiv_eq_ediv_of_nonneg _ (by omega), ← Int.natCast_mul, ← Int.natCast_ediv]
    exact ⟨some (tp hh), some (.int (s : Int)), v9, _, _, seq_one (if_yes (t.trans (by rw [decide_eq_false hm]; rfl)) (seq_nx (set_ok rfl) (seq_nx (set_ok (v_ok rfl)) (seq_nx (for_ok (rg1_ok (n := 240) rfl (by decide)) e1) (seq_nx (par_ok (two_ok (v_ok rfl) (v_ok rfl))) (seq_nx (for_ok (rg1_ok (n := 20) rfl (by decide)) e2) (seq_one (set_ok e3))))))))⟩
theorem f_lround : F__law_round [rws RT, rws rows] φ = .ok (.int (rnd (mby rows) : Int)) φ := by
  have F := mby_orth hr
  obtain ⟨ρ', h1, z3, z4, z5, rfl⟩ := for_inv (T := tgN 3) (φ := φ) (e := row) (B := lb__law_round_1) (fun pre ρ => ∃ z3 z4 z5, ρ = [some (rws RT), some (rws rows), some (.dt (dm (GO rows) pre)), z3, z4, z5] ++ [none, none, none, none, none, none]) RT [] (ρ := [some (rws RT), some (rws rows), some (.dt []), none, none, none] ++ [none, none, none, none, none, none]) ⟨_, _, _, rfl⟩ (by
    rintro pre x post ρ e ⟨z3, z4, z5, rfl⟩
    have e' : RT = pre ++ x :: post := e
    have hx : x ∈ RT := by rw [e']; exact List.mem_append_right _ (List.mem_cons_self ..)
    have hlen : pre.length ≤ 1000 := by
      have := congrArg List.length e'
      rw [RT_len, List.length_append] at this
      omega
    have hn : x ∉ pre := by
      have nd := RT_nodup
      rw [e', List.nodup_append] at nd
      exact fun h => nd.2.2 x h x (List.mem_cons_self ..) rfl
    have pm : putR pre x = pre ++ [x] := if_neg hn
    obtain ⟨w4, w5, hw⟩ := lr_one hr φ hx (y0 := some (rws RT)) hlen (z4 := z4) (z5 := z5) (tl := [none, none, none, none, none, none])
    rw [pm] at hw
    exact ⟨_, rfl, _, .inl hw, _, _, _, rfl⟩)
  obtain ⟨ρ2, h2, g1, g2, w3, w4, w5, w8, w9, w10, w11, rfl⟩ := for_fold (T := tgN 3) (φ := φ) (e := tp) (B := lb__law_round_3) (rd1 (mby rows)) (fun st ρ => RI10 (mby rows) st ∧ st.1.Nodup ∧ ∃ z3 z4 z5 z8 z9 z10 z11, ρ = [some (rws RT), some (rws rows), some (.dz (dm (GO rows) RT)), z3, z4, z5, some (.int (st.2 : Int)), some (dD st.1), z8, z9, z10, z11]) RT ([], 1) (ρ := [some (rws RT), some (rws rows), some (.dz (dm (GO rows) RT)), z3, z4, z5, some (.int ((1 : Nat) : Int)), some (.dt []), none, none, none, none]) ⟨rd_init _, List.nodup_nil, _, _, _, _, _, _, _, rfl⟩ (by
    rintro x hx st ρ ⟨hi, hn, z3, z4, z5, z8, z9, z10, z11, rfl⟩
    obtain ⟨w4, w8, w9, w10, w11, hb⟩ := lr_body hr φ hi hn hx (y0 := some (rws RT)) (y1 := some (rws rows)) (z4 := z4) (z5 := z5) (z8 := z8) (z9 := z9) (z10 := z10) (z11 := z11)
    exact ⟨_, rfl, _, .inl hb, (hi.step F hx).1, rd_nodup hr hi hn hx, _, _, _, _, _, _, _, rfl⟩)
  have e2 : (RT.foldl (rd1 (mby rows)) ([], 1)).2 = rnd (mby rows) := rfl
  rw [e2] at h2
  exact run_rt (seq_nx (set_ok rfl) (seq_nx (for_ok (seq_l (v_ok rfl)) h1) (seq_nx (set_ok rfl) (seq_nx (set_ok rfl) (lock_nx (l := RT) (f := GO rows) rfl (seq_nx (for_ok (keys_ok rfl) h2) (seq_rt (ret_ok (v_ok rfl)))))))))
end
end Pf

set_option Elab.async false
set_option linter.all false
set_option maxRecDepth 100000
set_option maxHeartbeats 1000000
namespace Pf
open PySem PySem.Spec PyProof.Rows L2

theorem f_whole (n : Int) (φ : Fd) : F__law_whole [.int n] φ = .ok (.bl true) φ := rfl
theorem isl_no {ρ : En} {φ : Fd} {A : SX} {l : List D} (h : A ρ φ = .ok (.lst l) φ) : bNot (bTru (eUn (gIsi "list") A)) ρ φ = .ok false φ := not_ok (trub_ok (b := true) (un_ok (d := .lst l) h rfl))
theorem f_wholes {r : List Int} (φ : Fd) (hl : r.length ≤ 100000) : F__law_wholes [row r, .int (r.length : Int)] φ = .ok (.bl true) φ := by
  have hg : gLen [row r] = some (.int (r.length : Int)) := sum_lens _ _ (by rw [List.length_map])
  refine run_rt (seq_nx (if_skip (or_no (φ1 := φ) (isl_no (v_ok rfl)) ((cmp_ok (cb1_ok (v_ok rfl) hg) (v_ok rfl) (ne_int _ _)).trans (by rw [decide_eq_true rfl]; rfl)))) (seq_rt (ret_ok (cb1_ok (lcm_ok r D.int (fun _ => D.bl true) (seq_l (v_ok rfl)) (size_le (by omega)) fun x hx => ⟨_, rfl, call_ok (one_ok (v_ok rfl)) (f_whole x φ)⟩) ((all_bls r fun _ => true).trans ?_)))))
  simp
theorem lens_ok {ρ : En} {φ : Fd} {A : SX} {l : List (List Int)} (h : A ρ φ = .ok (rws l) φ) : eCB gLen (aCons A aNil) ρ φ = .ok (.int (l.length : Int)) φ := cb1_ok h gLen_rows
theorem lenr_ok {ρ : En} {φ : Fd} {A : SX} {r : List Int} (h : A ρ φ = .ok (row r) φ) : eCB gLen (aCons A aNil) ρ φ = .ok (.int (r.length : Int)) φ := cb1_ok h (sum_lens _ _ (by rw [List.length_map]))
theorem f_lsame {l : List (List Int)} (φ : Fd) (hl : l.length ≤ 100000) (hr : ∀ r ∈ l, r.length ≤ 100000) : F__law_lists_same [rws l, rws l] φ = .ok (.bl true) φ := by
  obtain ⟨ρ', h1, y, h2⟩ := for_inv (T := tgN 2) (φ := φ) (e := fun (k : Nat) => D.int (k : Int)) (B := (sSeq (sIf (bOr (bNot (bTru (eCall F__law_wholes (aCons (eBin gIx (eVar 0) (eVar 2)) (aCons (eCB gLen (aCons (eBin gIx (eVar 1) (eVar 2)) aNil)) aNil))))) (bCmp gNe (eBin gIx (eVar 0) (eVar 2)) (eBin gIx (eVar 1) (eVar 2)))) (sSeq (sRet (eBl false)) sNil) sNil) sNil))
    (fun _ ρ => ∃ y, ρ = [some (rws l), some (rws l), y]) (List.range l.length) [] (ρ := [some (rws l), some (rws l), none]) ⟨none, rfl⟩ (by
    rintro pre k post ρ hp ⟨y, rfl⟩
    have hk : k ∈ List.range l.length := by
      rw [← List.nil_append (List.range l.length), hp]; simp
    have hk := List.mem_range.mp hk
    have e0 : eBin gIx (eVar 0) (eVar 2) [some (rws l), some (rws l), some (.int (k : Int))] φ = .ok (row (gw l k)) φ := bin_ok (v_ok rfl) (v_ok rfl) (gIx_rows hk)
    have e1 : eBin gIx (eVar 1) (eVar 2) [some (rws l), some (rws l), some (.int (k : Int))] φ = .ok (row (gw l k)) φ := bin_ok (v_ok rfl) (v_ok rfl) (gIx_rows hk)
    have hr' := hr _ (gw_mem hk)
    refine ⟨_, rfl, _, .inl (seq_nx (if_skip (or_no (φ1 := φ) (not_ok (trub_ok (b := true) (call_ok (two_ok e0 (lenr_ok e1)) (f_wholes φ hr')))) ((cmp_ok e0 e1 (emb_row.gNe (by decide) _ _)).trans (by rw [decide_eq_true rfl]; rfl)))) rfl), _, rfl⟩)
  subst h2
  exact run_rt (seq_nx (if_skip (or_no (φ1 := φ) (isl_no (v_ok rfl)) ((cmp_ok (lens_ok (v_ok rfl)) (lens_ok (v_ok rfl)) (ne_int _ _)).trans (by rw [decide_eq_true rfl]; rfl)))) (seq_nx (for_ok (rg1_ok (n := l.length) (one_ok (lens_ok (v_ok rfl))) (by omega)) h1) (seq_rt (ret_ok rfl))))
/-- a comprehension that draws -/
theorem lcGo_fd {α β : Type} {T : Tg} {tst : SB} {elt : SX} (e : α → D) (g : β → D) (R : β → Prop) {ρ : En} : ∀ (xs : List α) (φ : Fd), 0 ≤ φ.told → (∀ x ∈ xs, ∀ φ, 0 ≤ φ.told → ∃ ρ1 z φ2, T (e x) ρ = some ρ1 ∧ tst ρ1 φ = .ok true φ ∧ R z ∧ elt ρ1 φ = .ok (g z) φ2 ∧ 0 ≤ φ2.told) →
    ∃ (zs : List β) (φ' : Fd), lcGo T tst elt ρ (xs.map e) φ = .ok (zs.map g) φ' ∧ (∀ z ∈ zs, R z) ∧ zs.length = xs.length ∧ 0 ≤ φ'.told
  | [], φ, ht, _ => ⟨[], φ, rfl, fun z hz => (by cases hz), rfl, ht⟩
  | x :: xs, φ, ht, h => by
    obtain ⟨ρ1, z, φ2, h1, h2, h3, h4, h5⟩ := h x List.mem_cons_self φ ht
    obtain ⟨zs, φ', e1, e2, e3, e4⟩ := lcGo_fd e g R xs φ2 h5 fun y hy => h y (List.mem_cons_of_mem _ hy)
    refine ⟨z :: zs, φ', ?_, fun w hw => ?_, by rw [List.length_cons, List.length_cons, e3], e4⟩
    · rw [List.map_cons]
      unfold lcGo
      simp only [h1, h2, h4, e1]
      rfl
    · rcases List.mem_cons.mp hw with rfl | hw
      · exact h3
      · exact e2 w hw
theorem lc_fd {α β : Type} {T : Tg} {tst : SB} {elt : SX} {I : SA} {vs : List Nat} {ρ : En} {φ φ1 : Fd} (xs : List α) (e : α → D) (g : β → D) (R : β → Prop) (hI : I ρ φ1 = .ok (xs.map e) φ) (hl : xs.length ≤ 1000000) (ht : 0 ≤ φ.told)
    (h : ∀ x ∈ xs, ∀ φ, 0 ≤ φ.told → ∃ ρ1 z φ2, T (e x) (wipeE ρ vs) = some ρ1 ∧ tst ρ1 φ = .ok true φ ∧ R z ∧ elt ρ1 φ = .ok (g z) φ2 ∧ 0 ≤ φ2.told) :
    ∃ (zs : List β) (φ' : Fd), eLc I T tst elt vs ρ φ1 = .ok (.lst (zs.map g)) φ' ∧ (∀ z ∈ zs, R z) ∧ zs.length = xs.length ∧ 0 ≤ φ'.told := by
  obtain ⟨zs, φ', e1, e2, e3, e4⟩ := lcGo_fd e g R (ρ := wipeE ρ vs) xs φ ht h
  refine ⟨zs, φ', ?_, e2, e3, e4⟩
  unfold eLc
  rw [hI]
  show (match lcGo T tst elt (wipeE ρ vs) (xs.map e) φ with | .ok ys φ2 => if ys.length ≤ sizeLine then O.ok (D.lst ys) φ2 else .bad | _ => .bad) = _
  rw [e1]
  show (if _ then _ else _) = _
  rw [if_pos (size_le (by rw [List.length_map]; omega))]
theorem drw (φ : Fd) (ht : 0 ≤ φ.told) (n : Nat) (h0 : 0 < n) (h1 : n < 1073741824) : ∃ (m : Nat) (φ1 : Fd), m < n ∧ 0 ≤ φ1.told ∧ ∀ (i : Nat) (ρ : En) (A : SX), ρ[i]? = some (some .feed) → A ρ φ = .ok (.int (n : Int)) φ → eCall F__law_draw (aCons (eVar i) (aCons A aNil)) ρ φ = .ok (.int (m : Int)) φ1 := by
  have hr := Fd.draw_range φ (m := (n : Int)) (by omega)
  refine ⟨(φ.draw n).1.toNat, (φ.draw n).2, by omega, Fd.draw_told ht n (by omega), fun i ρ A hρ hA => ?_⟩
  rw [Int.toNat_of_nonneg hr.1]
  exact draw_at i hρ hA (by omega) (by omega) ht
/-! ## drawn rows -/
theorem bd_mul : ∀ {x : List Int}, (∀ a ∈ x, a.natAbs ≤ 85) → mulS x x ≤ x.length * 7225
  | [], _ => by show (0 : Int) ≤ _; simp
  | a :: x, h => by
    rw [mulS_cons]
    have ih := bd_mul fun b hb => h b (List.mem_cons_of_mem _ hb)
    have ha := h a (List.mem_cons_self ..)
    have h1 : a.natAbs * a.natAbs ≤ 85 * 85 := Nat.mul_le_mul ha ha
    have e : ((a.natAbs * a.natAbs : Nat) : Int) = a * a := by rw [Int.natCast_mul, Int.natAbs_mul_self']
    rw [List.length_cons]
    omega
theorem par_sum {o : Int} : ∀ {x : List Int}, (∀ a ∈ x, (a - o) % 2 = 0) → (x.sum - x.length * o) % 2 = 0
  | [], _ => by simp
  | a :: x, h => by
    have ih := par_sum fun b hb => h b (List.mem_cons_of_mem _ hb)
    have ha := h a (List.mem_cons_self ..)
    rw [List.sum_cons, List.length_cons]
    have : ((x.length + 1 : Nat) : Int) * o = (x.length : Int) * o + o := by
      rw [Int.natCast_add, Int.add_mul]; simp
    omega
theorem f_lrow (φ : Fd) (ht : 0 ≤ φ.told) : ∃ x φ', F__law_row [.feed] φ = .ok (row x) φ' ∧ Sm x ∧ 0 ≤ φ'.told := by
  obtain ⟨k, φ1, hk, t1, d1⟩ := drw φ ht 3 (by decide) (by decide)
  obtain ⟨mo, hmo, hm40⟩ : ∃ mo : Nat, gIx (.lst [.int 2, .int 4, .int 40]) (.int (k : Int)) = some (.int (mo : Int)) ∧ mo ≤ 40 := by
    match k, hk with
    | 0, _ => exact ⟨2, rfl, by decide⟩
    | 1, _ => exact ⟨4, rfl, by decide⟩
    | 2, _ => exact ⟨40, rfl, by decide⟩
  obtain ⟨o, φ2, ho, t2, d2⟩ := drw φ1 t1 2 (by decide) (by decide)
  obtain ⟨zs, φ3, e3, p3, l3, t3⟩ := lc_fd (T := tgN 6) (tst := bYes) (vs := [6]) (elt := (eBin gAdd (eBin gMul (eInt 2) (eBin gSub (eCall F__law_draw (aCons (eVar 0) (aCons (eBin gAdd (eBin gMul (eInt 2) (eVar 1)) (eInt 1)) aNil))) (eVar 1))) (eVar 2))) (I := iRg1 (aCons (eInt 7) aNil)) (ρ := [some .feed, some (.int (mo : Int)), some (.int (o : Int)), none, none, none, none]) (φ := φ2) (φ1 := φ2) (List.range 7) (fun (k : Nat) => D.int k) D.int (fun a => (a - o) % 2 = 0 ∧ a.natAbs ≤ 81) (rg1_ok (n := 7) rfl (by decide)) (by decide) t2 (by
    intro j hj φ ht
    obtain ⟨d, φ', hd, t', dd⟩ := drw φ ht (2 * mo + 1) (by omega) (by omega)
    refine ⟨_, 2 * ((d : Int) - mo) + o, φ', rfl, rfl, ⟨by omega, by omega⟩, ?_, t'⟩
    exact bin_ok (bin_ok rfl (bin_ok (dd 0 _ _ rfl (bin_ok (bin_ok rfl (v_ok rfl) (gMul_ok' (by decide))) rfl rfl)) (v_ok rfl) rfl) (gMul_ok' (by decide))) (v_ok rfl) rfl)
  have ps := par_sum fun a ha => (p3 a ha).1
  rw [l3, List.length_range] at ps
  obtain ⟨ρ4, h4, L, z5, rfl, q1, q2, q3, q4⟩ := for_inv (T := tgN 5) (φ := φ3) (e := fun (k : Nat) => D.int k) (B := (sSeq (sIf (bCmp gGtA (eBin gMod (eCB gInt (aCons (eBin gAdd (eCB gSum (aCons (eVar 3) aNil)) (eVar 4)) aNil)) (eInt 4)) (eInt 0)) (sSeq (sAug 4 (fun i j => i + j) (eInt 2)) sNil) sNil) sNil)) (fun pre ρ => ∃ L z5, ρ = [some .feed, some (.int (mo : Int)), some (.int (o : Int)), some (row zs), some (.int L), z5, none] ∧ (L - o) % 2 = 0 ∧ (o : Int) ≤ L ∧ L ≤ o + 2 * pre.length ∧ (pre ≠ [] → (zs.sum + L) % 4 = 0)) (List.range 4) [] (ρ := [some .feed, some (.int (mo : Int)), some (.int (o : Int)), some (row zs), some (.int (o : Int)), none, none]) ⟨_, _, rfl, by omega, by omega, by simp, fun h => absurd rfl h⟩ (by
    rintro pre j post ρ hp ⟨L, z5, rfl, q1, q2, q3, q4⟩
    have t : (bCmp gGtA (eBin gMod (eCB gInt (aCons (eBin gAdd (eCB gSum (aCons (eVar 3) aNil)) (eVar 4)) aNil)) (eInt 4)) (eInt 0)) [some .feed, some (.int (mo : Int)), some (.int (o : Int)), some (row zs), some (.int L), some (.int j), none] φ3 = .ok (decide ((0 : Int) < (zs.sum + L).fmod 4)) φ3 :=
      cmp_ok (bin_ok (cb1_ok (bin_ok (cb1_ok (v_ok rfl) (gSum_ints zs)) (v_ok rfl) rfl) rfl) rfl (gMod_ok (by decide))) rfl rfl
    have fm : (zs.sum + L).fmod 4 = (zs.sum + L) % 4 := Int.fmod_eq_emod_of_nonneg _ (by decide)
    rw [fm] at t
    rw [List.length_append, List.length_singleton]
    by_cases h : (0 : Int) < (zs.sum + L) % 4
    · refine ⟨_, rfl, _, .inl (seq_one (if_yes (t.trans (by rw [decide_eq_true h])) (seq_one (aug_ok (n := L) (m := 2) rfl rfl)))), L + 2, _, rfl, by omega, by omega, by omega, fun _ => by omega⟩
    · exact ⟨_, rfl, _, .inl (seq_one (if_skip (t.trans (by rw [decide_eq_false h])))), L, _, rfl, q1, q2, by omega, fun _ => by omega⟩)
  have q4' := q4 (by simp [List.range_succ])
  have q3' : L ≤ o + 2 * 4 := q3
  obtain ⟨c, φ5, hc, t5, d5⟩ := drw φ3 t3 2 (by decide) (by decide)
  have fin : ∀ L' : Int, (L' - o) % 2 = 0 → L'.natAbs ≤ 81 → (zs.sum + L') % 4 = 0 → Sm (zs ++ [L']) := by
    intro L' h1 h2 h3
    have all : ∀ a ∈ zs ++ [L'], (a - o) % 2 = 0 ∧ a.natAbs ≤ 81 := fun a ha => by
      rcases List.mem_append.mp ha with q | q
      · exact p3 a q
      · rw [List.mem_singleton.mp q]; exact ⟨h1, h2⟩
    have len : (zs ++ [L']).length = 8 := by rw [List.length_append, l3]; rfl
    refine ⟨⟨len, fun a ha => ?_, ?_⟩, ?_⟩
    · have hh : (zs ++ [L']).headD 0 ∈ zs ++ [L'] := by
        cases hz : zs ++ [L'] with
        | nil => rw [hz] at len; cases len
        | cons b l => exact List.mem_cons_self ..
      have := (all a ha).1
      have := (all _ hh).1
      omega
    · rw [List.sum_append]
      simpa using h3
    · have := bd_mul (x := zs ++ [L']) fun a ha => by have := (all a ha).2; omega
      rw [len] at this
      exact Int.le_trans this (by decide)
  have e6 : ∀ (L' : Int) (z : Option D) (φ : Fd), (eBin gAdd (eVar 3) (eLst (aCons (eVar 4) aNil))) [some .feed, some (.int (mo : Int)), some (.int (o : Int)), some (row zs), some (.int L'), z, none] φ = .ok (row (zs ++ [L'])) φ := fun L' z φ => by
    refine bin_ok (v_ok rfl) (lst_ok (one_ok (v_ok rfl)) (size_le (show 1 ≤ 1000000 by decide))) ((gAdd_l (by rw [List.length_map, l3, List.length_range, List.length_singleton]; decide)).trans ?_)
    unfold row
    rw [List.map_append]; rfl
  have t6 : (bCmp gEq (eCall F__law_draw (aCons (eVar 0) (aCons (eInt 2) aNil))) (eInt 0)) [some .feed, some (.int (mo : Int)), some (.int (o : Int)), some (row zs), some (.int L), z5, none] φ3 = .ok (decide ((c : Int) = 0)) φ5 := cmp_ok (d5 0 _ _ rfl rfl) rfl (eq_int _ _)
  by_cases h : (c : Int) = 0
  · exact ⟨_, φ5, run_rt (seq_nx (set_ok (bin_ok (lst_ok (cons_ok rfl (two_ok rfl rfl)) (size_le (show 3 ≤ 1000000 by decide))) (d1 0 _ _ rfl rfl) hmo)) (seq_nx (set_ok (d2 0 _ _ rfl rfl)) (seq_nx (set_ok e3) (seq_nx (set_ok (v_ok rfl)) (seq_nx (for_ok (rg1_ok (n := 4) rfl (by decide)) h4) (seq_nx (if_yes (t6.trans (by rw [decide_eq_true h])) (seq_one (set_ok (bin_ok (v_ok rfl) rfl rfl)))) (seq_rt (ret_ok (e6 (L - 4) _ _))))))))), fin (L - 4) (by omega) (by omega) (by omega), t5⟩
  · exact ⟨_, φ5, run_rt (seq_nx (set_ok (bin_ok (lst_ok (cons_ok rfl (two_ok rfl rfl)) (size_le (show 3 ≤ 1000000 by decide))) (d1 0 _ _ rfl rfl) hmo)) (seq_nx (set_ok (d2 0 _ _ rfl rfl)) (seq_nx (set_ok e3) (seq_nx (set_ok (v_ok rfl)) (seq_nx (for_ok (rg1_ok (n := 4) rfl (by decide)) h4) (seq_nx (if_skip (t6.trans (by rw [decide_eq_false h]))) (seq_rt (ret_ok (e6 L _ _))))))))), fin L q1 (by omega) q4', t5⟩
end Pf

set_option Elab.async false
set_option linter.all false
set_option maxRecDepth 100000
set_option maxHeartbeats 1000000
namespace Pf
open PySem PySem.Spec PyProof.Rows L2

theorem popD_at {l : List D} {k : Nat} {y : D} (hk : l[k]? = some y) (hl : k < 1000000) : popD l (.int (k : Int)) = some (y, l.eraseIdx k) := by
  have hk2 : k < l.length := (List.getElem?_eq_some_iff.mp hk).1
  have e : seqIndex? (k : Int) l.length = some k := by
    have h0 : ¬ (k : Int) < 0 := by omega
    simp [seqIndex?, h0, hk2]
  unfold popD
  show (if _ then _ else _) = _
  rw [if_pos ⟨by omega, by omega⟩, e]
  show (l[k]?).map _ = _
  rw [hk]
  rfl
theorem popA_ok {i j : Nat} {A : SX} {ρ : En} {φ φ1 : Fd} {m l l' : List D} {e y : D} (hi : ρ[i]? = some (some (.lst m))) (h : ρ[j]? = some (some (.lst l))) (hA : A ρ φ = .ok e φ1) (hp : popD l e = some (y, l')) (hm : m.length < sizeLine) :
    sPopA i j A ρ φ = .nx ((ρ.set j (some (.lst l'))).set i (some (.lst (m ++ [y])))) φ1 := by
  unfold sPopA
  rw [hi, h]
  show (A ρ φ).toR ρ _ = _
  rw [hA]
  show (match popD l e with | some (y, l') => if m.length < sizeLine then R.nx ((ρ.set j (some (.lst l'))).set i (some (.lst (m ++ [y])))) φ1 else .bad | none => .bad) = _
  rw [hp]
  show (if _ then _ else _ : R) = _
  rw [if_pos hm]
theorem erase_map {α β : Type} (f : α → β) : ∀ (l : List α) (k : Nat), (l.map f).eraseIdx k = (l.eraseIdx k).map f
  | [], _ => rfl
  | _ :: _, 0 => rfl
  | a :: l, k + 1 => by rw [List.map_cons, List.eraseIdx_cons_succ, List.eraseIdx_cons_succ, List.map_cons, erase_map f l k]
theorem ints_of : ∀ ns : List Int, intsOf (ns.map D.int) = some ns
  | [] => rfl
  | a :: ns => by
    have := ints_of ns
    simp [intsOf, this]
theorem max1_some {ns : List Int} (h : ns ≠ []) : ∃ M, gMax1 [row ns] = some (.int M) := by
  have e : gMax1 [row ns] = ((intsOf (ns.map D.int)).bind fun ns => (maxL ns).map D.int) := rfl
  rw [e, ints_of]
  cases ns with
  | nil => exact absurd rfl h
  | cons a l => exact ⟨_, rfl⟩
theorem min1_some {ns : List Int} (h : ns ≠ []) : ∃ M, gMin1 [row ns] = some (.int M) := by
  have e : gMin1 [row ns] = ((intsOf (ns.map D.int)).bind fun ns => (minL ns).map D.int) := rfl
  rw [e, ints_of]
  cases ns with
  | nil => exact absurd rfl h
  | cons a l => exact ⟨_, rfl⟩
theorem app_f {ρ : En} {φ φ1 : Fd} {i : Nat} {A : SX} {acc : List (List Int)} {x : List Int} (hi : ρ[i]? = some (some (rws acc))) (h : A ρ φ = .ok (row x) φ1) (hl : acc.length ≤ 500000) : sMut i gApp A ρ φ = .nx (ρ.set i (some (rws (acc ++ [x])))) φ1 := by
  refine (app_ok hi h (size_lt (by rw [List.length_map]; omega))).trans ?_
  unfold rws
  rw [List.map_append]; rfl
abbrev lb__law_some_1 : SS := (sSeq (sMut 4 gApp (eLc (iRg1 (aCons (eInt 8) aNil)) (tgN 7) bYes (eBin gSub (eBin gMul (eInt 2) (eCB gInt (aCons (eBin gEq (eVar 7) (eBin gAdd (eVar 5) (eInt 1))) aNil))) (eBin gMul (eInt 2) (eCB gInt (aCons (eBin gEq (eVar 7) (eVar 5)) aNil)))) [7])) sNil)
abbrev lb__law_some_2 : SS := (sSeq (sPopA 6 4 (eCall F__law_draw (aCons (eVar 0) (aCons (eCB gLen (aCons (eVar 4) aNil)) aNil)))) sNil)
abbrev lb__law_some_4 : SS := (sSeq (sSet 12 (eLc (iSeq (eVar 6)) (tgN 13) bYes (eCall F__law_product (aCons (eVar 11) (aCons (eVar 13) aNil))) [13])) (sSeq (sIf (bAnd (bCmp gLeA (eCB gMax1 (aCons (eBin gAdd (eVar 12) (eLst (aCons (eUn gNeg (eInt 1)) aNil))) aNil)) (eInt 0)) (bCmp gGeA (eCB gMin1 (aCons (eBin gAdd (eVar 12) (eLst (aCons (eInt 0) aNil))) aNil)) (eVar 9))) (sSeq (sMut 10 gApp (eVar 11)) sNil) sNil) sNil))
abbrev lb__law_some_3 : SS := (sSeq (sSet 9 (eUn gNeg (eInt 1))) (sSeq (sIf (bAnd (bCmp gEq (eVar 2) (eInt 4)) (bCmp gEq (eCall F__law_draw (aCons (eVar 0) (aCons (eInt 2) aNil))) (eInt 0))) (sSeq (sSet 9 (eInt 0)) sNil) sNil) (sSeq (sSet 10 (eLst aNil)) (sSeq (sFor (iSeq (eVar 1)) (tgN 11) lb__law_some_4) (sSeq (sIf (bCmp gGtA (eCB gLen (aCons (eVar 10) aNil)) (eInt 0)) (sSeq (sMut 6 gApp (eBin gIx (eVar 10) (eCall F__law_draw (aCons (eVar 0) (aCons (eCB gLen (aCons (eVar 10) aNil)) aNil))))) sNil) sNil) sNil)))))
abbrev B2 : List (List Int) := [[1, -1, -1, -1, -1, -1, -1, 1], [2, 2, 0, 0, 0, 0, 0, 0]]
theorem base_loop (y1 y2 y3 z7 : Option D) (φ : Fd) : forGo (tgN 5) lb__law_some_1 ((List.range 6).map fun (k : Nat) => D.int k) [some .feed, y1, y2, y3, some (rws B2), none, none, z7, none, none, none, none, none, none, none] φ = .nx [some .feed, y1, y2, y3, some (rws BR), some (.int 5), none, z7, none, none, none, none, none, none, none] φ := by kernel_rfl
/-- the state behind the given base -/
abbrev SE (kind many : Nat) (B F : List (List Int)) (z5 z7 z8 z9 z10 z11 z12 : Option D) : En := [some .feed, some (rws RT), some (.int (kind : Int)), some (.int (many : Int)), some (rws B), z5, some (rws F), z7, z8, z9, z10, z11, z12, none, none]
theorem some_fits {kind many : Nat} {B F : List (List Int)} {z5 z7 z8 z11 z12 : Option D} {g : Int} (φ : Fd) (hF : ∀ x ∈ F, x ∈ RT) (hl : F.length ≤ 1000) :
    ∃ A w11 w12, forGo (tgN 11) lb__law_some_4 (RT.map row) (SE kind many B F z5 z7 z8 (some (.int g)) (some (rws [])) z11 z12) φ = .nx (SE kind many B F z5 z7 z8 (some (.int g)) (some (rws A)) w11 w12) φ ∧ (∀ x ∈ A, x ∈ RT) ∧ A.length ≤ 240 := by
  obtain ⟨ρ', h1, A, w11, w12, rfl, hA, hlen⟩ := for_inv (T := tgN 11) (φ := φ) (e := row) (B := lb__law_some_4) (fun pre ρ => ∃ A w11 w12, ρ = SE kind many B F z5 z7 z8 (some (.int g)) (some (rws A)) w11 w12 ∧ (∀ x ∈ A, x ∈ RT) ∧ A.length ≤ pre.length) RT [] (ρ := SE kind many B F z5 z7 z8 (some (.int g)) (some (rws [])) z11 z12) ⟨[], _, _, rfl, (by intro x hx; cases hx), Nat.le_refl _⟩ (by
    rintro pre x post ρ e ⟨A, w11, w12, rfl, hA, hlen⟩
    have e' : RT = pre ++ x :: post := e
    have hx : x ∈ RT := by rw [e']; exact List.mem_append_right _ (List.mem_cons_self ..)
    have hp : pre.length ≤ 240 := by
      have := congrArg List.length e'
      rw [RT_len, List.length_append] at this
      omega
    have e1 : eLc (iSeq (eVar 6)) (tgN 13) bYes (eCall F__law_product (aCons (eVar 11) (aCons (eVar 13) aNil))) [13] (SE kind many B F z5 z7 z8 (some (.int g)) (some (rws A)) (some (row x)) w12) φ = .ok (row (F.map (dot x))) φ := by
      rw [lcm_ok F row (fun y => D.int (dot x y)) (seq_l (v_ok rfl)) (size_le (by omega)) fun y hy => ⟨_, rfl, call_ok (two_ok (v_ok rfl) (v_ok rfl)) (f_lproduct φ (RT_rw hx) (RT_rw (hF y hy)))⟩]
      unfold row
      rw [List.map_map]; rfl
    have ap : ∀ (n : Int), gAdd (row (F.map (dot x))) (.lst [.int n]) = some (row (F.map (dot x) ++ [n])) := fun n => by
      refine (gAdd_l (by rw [List.length_map, List.length_map, List.length_singleton]; omega)).trans ?_
      unfold row
      rw [List.map_append]; rfl
    obtain ⟨M, hM⟩ := max1_some (ns := F.map (dot x) ++ [-1]) (by simp)
    obtain ⟨m, hm⟩ := min1_some (ns := F.map (dot x) ++ [0]) (by simp)
    have t : ∃ b, (bAnd (bCmp gLeA (eCB gMax1 (aCons (eBin gAdd (eVar 12) (eLst (aCons (eUn gNeg (eInt 1)) aNil))) aNil)) (eInt 0)) (bCmp gGeA (eCB gMin1 (aCons (eBin gAdd (eVar 12) (eLst (aCons (eInt 0) aNil))) aNil)) (eVar 9))) (SE kind many B F z5 z7 z8 (some (.int g)) (some (rws A)) (some (row x)) (some (row (F.map (dot x))))) φ = .ok b φ :=
      ⟨_, and_ok (k := decide (g ≤ m)) (cmp_ok (b := decide (M ≤ 0)) (cb1_ok (bin_ok (v_ok rfl) (lst_ok (one_ok (un_ok rfl rfl)) (size_le (show 1 ≤ 1000000 by decide))) (ap (-1))) hM) rfl rfl) fun _ => cmp_ok (cb1_ok (bin_ok (v_ok rfl) (lst_ok (one_ok rfl) (size_le (show 1 ≤ 1000000 by decide))) (ap 0)) hm) (v_ok rfl) rfl⟩
    obtain ⟨b, t⟩ := t
    refine ⟨_, rfl, ?_⟩
    cases b with
    | false => exact ⟨_, .inl (seq_nx (set_ok e1) (seq_one (if_skip t))), A, _, _, rfl, hA, by rw [List.length_append]; omega⟩
    | true =>
      refine ⟨_, .inl (seq_nx (set_ok e1) (seq_one (if_yes t (seq_one (app_r rfl (v_ok rfl) (by omega)))))), A ++ [x], _, _, rfl, fun y hy => ?_, by rw [List.length_append, List.length_append]; exact Nat.add_le_add_right hlen _⟩
      rcases List.mem_append.mp hy with q | q
      · exact hA y q
      · rw [List.mem_singleton.mp q]; exact hx)
  rw [List.nil_append, RT_len] at hlen
  exact ⟨A, w11, w12, h1, hA, hlen⟩
theorem some_more {kind many : Nat} {B : List (List Int)} {z5 z8 : Option D} : ∀ (xs : List Nat) {F : List (List Int)} {z7 z9 z10 z11 z12 : Option D} (φ : Fd), (∀ x ∈ F, x ∈ RT) → F.length + xs.length ≤ 1000 → 0 ≤ φ.told →
    ∃ G w7 w9 w10 w11 w12 φ', forGo (tgN 7) lb__law_some_3 (xs.map fun (k : Nat) => D.int k) (SE kind many B F z5 z7 z8 z9 z10 z11 z12) φ = .nx (SE kind many B G z5 w7 z8 w9 w10 w11 w12) φ' ∧ (∀ x ∈ G, x ∈ RT) ∧ G.length ≤ F.length + xs.length ∧ 0 ≤ φ'.told
  | [], F, z7, z9, z10, z11, z12, φ, hF, hl, ht => ⟨F, z7, z9, z10, z11, z12, φ, rfl, hF, Nat.le_add_right _ _, ht⟩
  | k :: xs, F, z7, z9, z10, z11, z12, φ, hF, hl, ht => by
    rw [List.length_cons] at hl
    -- the goal
    have goal : ∃ (g : Int) (φ1 : Fd), 0 ≤ φ1.told ∧ (sIf (bAnd (bCmp gEq (eVar 2) (eInt 4)) (bCmp gEq (eCall F__law_draw (aCons (eVar 0) (aCons (eInt 2) aNil))) (eInt 0))) (sSeq (sSet 9 (eInt 0)) sNil) sNil) (SE kind many B F z5 (some (.int (k : Int))) z8 (some (.int (-1))) z10 z11 z12) φ = .nx (SE kind many B F z5 (some (.int (k : Int))) z8 (some (.int g)) z10 z11 z12) φ1 := by
      have t1 : (bCmp gEq (eVar 2) (eInt 4)) (SE kind many B F z5 (some (.int (k : Int))) z8 (some (.int (-1))) z10 z11 z12) φ = .ok (decide ((kind : Int) = 4)) φ := cmp_ok (v_ok rfl) rfl (eq_int _ _)
      by_cases h : (kind : Int) = 4
      · obtain ⟨c, φ1, hc, tc, dc⟩ := drw φ ht 2 (by decide) (by decide)
        have t2 : (bCmp gEq (eCall F__law_draw (aCons (eVar 0) (aCons (eInt 2) aNil))) (eInt 0)) (SE kind many B F z5 (some (.int (k : Int))) z8 (some (.int (-1))) z10 z11 z12) φ = .ok (decide ((c : Int) = 0)) φ1 := cmp_ok (dc 0 _ _ rfl rfl) rfl (eq_int _ _)
        have t3 := and_yes (t1.trans (by rw [decide_eq_true h])) t2
        by_cases h0 : (c : Int) = 0
        · exact ⟨0, φ1, tc, if_yes (t3.trans (by rw [decide_eq_true h0])) (seq_one (set_ok rfl))⟩
        · exact ⟨-1, φ1, tc, if_skip (t3.trans (by rw [decide_eq_false h0]))⟩
      · exact ⟨-1, φ, ht, if_skip (and_no (t1.trans (by rw [decide_eq_false h])))⟩
    obtain ⟨g, φ1, t1, e1⟩ := goal
    obtain ⟨A, w11, w12, e2, hA, hAl⟩ := some_fits (kind := kind) (many := many) (B := B) (z5 := z5) (z7 := some (.int (k : Int))) (z8 := z8) (z11 := z11) (z12 := z12) (g := g) φ1 hF (by omega)
    have last : ∃ (G : List (List Int)) (φ2 : Fd), 0 ≤ φ2.told ∧ (∀ x ∈ G, x ∈ RT) ∧ G.length ≤ F.length + 1 ∧ (sIf (bCmp gGtA (eCB gLen (aCons (eVar 10) aNil)) (eInt 0)) (sSeq (sMut 6 gApp (eBin gIx (eVar 10) (eCall F__law_draw (aCons (eVar 0) (aCons (eCB gLen (aCons (eVar 10) aNil)) aNil))))) sNil) sNil) (SE kind many B F z5 (some (.int (k : Int))) z8 (some (.int g)) (some (rws A)) w11 w12) φ1 = .nx (SE kind many B G z5 (some (.int (k : Int))) z8 (some (.int g)) (some (rws A)) w11 w12) φ2 := by
      have t : (bCmp gGtA (eCB gLen (aCons (eVar 10) aNil)) (eInt 0)) (SE kind many B F z5 (some (.int (k : Int))) z8 (some (.int g)) (some (rws A)) w11 w12) φ1 = .ok (decide ((0 : Int) < (A.length : Int))) φ1 := cmp_ok (lens_ok (v_ok rfl)) rfl rfl
      by_cases h : A = []
      · exact ⟨F, φ1, t1, hF, by omega, if_skip (t.trans (by rw [h]; rfl))⟩
      · have hp := List.length_pos_iff.mpr h
        obtain ⟨c, φ2, hc, tc, dc⟩ := drw φ1 t1 A.length hp (by omega)
        refine ⟨F ++ [gw A c], φ2, tc, fun x hx => ?_, by rw [List.length_append]; exact Nat.le_refl _, if_yes (t.trans (by rw [decide_eq_true (by omega)])) (seq_one (app_f rfl (bin_ok (v_ok rfl) (dc 0 _ _ rfl (lens_ok (v_ok rfl))) (gIx_rows hc)) (by omega)))⟩
        rcases List.mem_append.mp hx with q | q
        · exact hF x q
        · rw [List.mem_singleton.mp q]; exact hA _ (gw_mem hc)
    obtain ⟨G, φ2, t2, hG, hGl, e3⟩ := last
    obtain ⟨G', v7, v9, v10, v11, v12, φ', e4, hG', hl', t'⟩ := some_more (kind := kind) (many := many) (B := B) (z5 := z5) (z8 := z8) xs (F := G) (z7 := some (.int (k : Int))) (z9 := some (.int g)) (z10 := some (rws A)) (z11 := w11) (z12 := w12) φ2 hG (by omega) t2
    refine ⟨G', v7, v9, v10, v11, v12, φ', ?_, hG', by rw [List.length_cons]; omega, t'⟩
    have body : lb__law_some_3 (SE kind many B F z5 (some (.int (k : Int))) z8 z9 z10 z11 z12) φ = .nx (SE kind many B G z5 (some (.int (k : Int))) z8 (some (.int g)) (some (rws A)) w11 w12) φ2 :=
      seq_nx (set_ok (un_ok (d := D.int 1) (z := D.int (-1)) rfl rfl)) (seq_nx e1 (seq_nx (set_ok rfl) (seq_nx (for_ok (seq_l (v_ok rfl)) e2) (seq_one e3))))
    rw [List.map_cons]
    unfold forGo
    show (match lb__law_some_3 (SE kind many B F z5 (some (.int (k : Int))) z8 z9 z10 z11 z12) φ with
      | .nx ρ2 φ2 => forGo (tgN 7) lb__law_some_3 (xs.map fun (k : Nat) => D.int k) ρ2 φ2
      | .ct ρ2 φ2 => forGo (tgN 7) lb__law_some_3 (xs.map fun (k : Nat) => D.int k) ρ2 φ2
      | .bk ρ2 φ2 => .nx ρ2 φ2
      | .rt d φ2 => .rt d φ2
      | .ex x l ρ2 φ2 => .ex x l ρ2 φ2
      | .bad => .bad) = _
    rw [body]
    exact e4
end Pf

set_option Elab.async false
set_option linter.all false
set_option maxRecDepth 100000
set_option maxHeartbeats 1000000
namespace Pf
open PySem PySem.Spec PyProof.Rows L2

theorem some_pops {kind many : Nat} {z5 z8 z9 z10 z11 z12 : Option D} : ∀ (xs : List Nat) {B F : List (List Int)} {z7 : Option D} (φ : Fd), (∀ x ∈ B, x ∈ RT) → (∀ x ∈ F, x ∈ RT) → xs.length ≤ B.length → B.length ≤ 1000 → F.length + xs.length ≤ 1000 → 0 ≤ φ.told →
    ∃ C G w7 φ', forGo (tgN 7) lb__law_some_2 (xs.map fun (k : Nat) => D.int k) (SE kind many B F z5 z7 z8 z9 z10 z11 z12) φ = .nx (SE kind many C G z5 w7 z8 z9 z10 z11 z12) φ' ∧ (∀ x ∈ G, x ∈ RT) ∧ G.length = F.length + xs.length ∧ 0 ≤ φ'.told
  | [], B, F, z7, φ, hB, hF, _, _, _, ht => ⟨B, F, z7, φ, rfl, hF, rfl, ht⟩
  | k :: xs, B, F, z7, φ, hB, hF, h1, h2, h3, ht => by
    rw [List.length_cons] at h1 h3
    obtain ⟨c, φ1, hc, tc, dc⟩ := drw φ ht B.length (by omega) (by omega)
    have hk : (B.map row)[c]? = some (row (gw B c)) := by rw [List.getElem?_map, gw_get hc]; rfl
    have e1 := popA_ok (i := 6) (j := 4) (ρ := SE kind many B F z5 (some (.int (k : Int))) z8 z9 z10 z11 z12) (φ := φ) (φ1 := φ1) (m := F.map row) (l := B.map row) (A := (eCall F__law_draw (aCons (eVar 0) (aCons (eCB gLen (aCons (eVar 4) aNil)) aNil)))) rfl rfl (dc 0 _ _ rfl (lens_ok (v_ok rfl))) (popD_at hk (by omega)) (size_lt (by rw [List.length_map]; omega))
    rw [erase_map] at e1
    have e2 : F.map row ++ [row (gw B c)] = (F ++ [gw B c]).map row := by rw [List.map_append]; rfl
    rw [e2] at e1
    obtain ⟨C, G, w7, φ', e4, hG, hl', t'⟩ := some_pops (kind := kind) (many := many) (z5 := z5) (z8 := z8) (z9 := z9) (z10 := z10) (z11 := z11) (z12 := z12) xs (B := B.eraseIdx c) (F := F ++ [gw B c]) (z7 := some (.int (k : Int))) φ1 (fun x hx => hB x (List.mem_of_mem_eraseIdx hx)) (fun x hx => by
      rcases List.mem_append.mp hx with q | q
      · exact hF x q
      · rw [List.mem_singleton.mp q]; exact hB _ (gw_mem hc)) (by rw [List.length_eraseIdx, if_pos hc]; omega) (by rw [List.length_eraseIdx, if_pos hc]; omega) (by rw [List.length_append, List.length_singleton]; omega) tc
    refine ⟨C, G, w7, φ', ?_, hG, by rw [hl', List.length_append, List.length_singleton, List.length_cons]; omega, t'⟩
    rw [List.map_cons]
    unfold forGo
    show (match lb__law_some_2 (SE kind many B F z5 (some (.int (k : Int))) z8 z9 z10 z11 z12) φ with
      | .nx ρ2 φ2 => forGo (tgN 7) lb__law_some_2 (xs.map fun (k : Nat) => D.int k) ρ2 φ2
      | .ct ρ2 φ2 => forGo (tgN 7) lb__law_some_2 (xs.map fun (k : Nat) => D.int k) ρ2 φ2
      | .bk ρ2 φ2 => .nx ρ2 φ2
      | .rt d φ2 => .rt d φ2
      | .ex x l ρ2 φ2 => .ex x l ρ2 φ2
      | .bad => .bad) = _
    rw [show lb__law_some_2 (SE kind many B F z5 (some (.int (k : Int))) z8 z9 z10 z11 z12) φ = .nx (SE kind many (B.eraseIdx c) (F ++ [gw B c]) z5 (some (.int (k : Int))) z8 z9 z10 z11 z12) φ1 from seq_one e1]
    exact e4
theorem skipK {kind : Nat} {c : Int} {ρ : En} {φ : Fd} {P : SS} (h : ρ[2]? = some (some (.int (kind : Int)))) (hc : (kind : Int) ≠ c) : sIf (bCmp gEq (eVar 2) (eInt c)) P sNil ρ φ = .nx ρ φ := if_skip ((cmp_ok (v_ok h) rfl (eq_int _ _)).trans (by rw [decide_eq_false hc]))
theorem yesK {kind : Nat} {c : Int} {ρ : En} {φ : Fd} {P : SS} {r : R} (h : ρ[2]? = some (some (.int (kind : Int)))) (hc : (kind : Int) = c) (hp : P ρ φ = r) : sIf (bCmp gEq (eVar 2) (eInt c)) P sNil ρ φ = r := if_yes ((cmp_ok (v_ok h) rfl (eq_int _ _)).trans (by rw [decide_eq_true hc])) hp
theorem skipG {kind : Nat} {ρ : En} {φ : Fd} {P : SS} (h : ρ[2]? = some (some (.int (kind : Int)))) (hc : kind ≤ 2) : sIf (bCmp gGtA (eVar 2) (eInt 2)) P sNil ρ φ = .nx ρ φ := if_skip ((cmp_ok (v_ok h) rfl (show gGtA (.int (kind : Int)) (.int 2) = some (.bl (decide ((2 : Int) < (kind : Int)))) from rfl)).trans (by rw [decide_eq_false (by omega)]))
theorem yesG {kind : Nat} {ρ : En} {φ : Fd} {P : SS} {r : R} (h : ρ[2]? = some (some (.int (kind : Int)))) (hc : 2 < kind) (hp : P ρ φ = r) : sIf (bCmp gGtA (eVar 2) (eInt 2)) P sNil ρ φ = r := if_yes ((cmp_ok (v_ok h) rfl (show gGtA (.int (kind : Int)) (.int 2) = some (.bl (decide ((2 : Int) < (kind : Int)))) from rfl)).trans (by rw [decide_eq_true (by omega)])) hp
abbrev some7 : SS := sSeq (sSet 6 (eLc (iRg1 (aCons (eVar 3) aNil)) (tgN 7) bYes (eBin gIx (eVar 1) (eCall F__law_draw (aCons (eVar 0) (aCons (eInt 240) aNil)))) [7])) sNil
abbrev some8 : SS := sSeq (sFor (iRg1 (aCons (eVar 3) aNil)) (tgN 7) lb__law_some_2) sNil
abbrev some9 : SS := sSeq (sSet 8 (eCall F__law_draw (aCons (eVar 0) (aCons (eInt 8) aNil)))) (sSeq (sSet 6 (eSl (eVar 4) (oSome (eVar 8)) (oSome (eBin gAdd (eVar 8) (eVar 3))))) sNil)
abbrev some10 : SS := sSeq (sFor (iRg1 (aCons (eVar 3) aNil)) (tgN 7) lb__law_some_3) sNil
abbrev someR : SS := sSeq (sRet (eLc (iSeq (eVar 6)) (tgN 14) bYes (eCB gList (aCons (eVar 14) aNil)) [14])) sNil
abbrev someT : SS := sSeq (sIf (bCmp gEq (eVar 2) (eInt 0)) some7 sNil) (sSeq (sIf (bCmp gEq (eVar 2) (eInt 1)) some8 sNil) (sSeq (sIf (bCmp gEq (eVar 2) (eInt 2)) some9 sNil) (sSeq (sIf (bCmp gGtA (eVar 2) (eInt 2)) some10 sNil) someR)))
theorem some_ret {kind many : Nat} {B F : List (List Int)} {z5 z7 z8 z9 z10 z11 z12 : Option D} (φ : Fd) (hl : F.length ≤ 1000) : someR (SE kind many B F z5 z7 z8 z9 z10 z11 z12) φ = .rt (rws F) φ := by
  refine seq_rt (ret_ok ?_)
  rw [lcm_ok F row row (seq_l (v_ok rfl)) (size_le (by omega)) fun x hx => ⟨_, rfl, lstr_ok (v_ok rfl)⟩]
  rfl
theorem cut_map (l : List (List Int)) (a b : Option Int) : ∃ l' : List (List Int), cutD (l.map row) a b = l'.map row ∧ (∀ x ∈ l', x ∈ l) ∧ l'.length ≤ l.length := by
  unfold cutD
  refine ⟨(l.drop (HT.sIx (l.map row).length 0 a)).take (HT.sIx (l.map row).length (l.map row).length b - HT.sIx (l.map row).length 0 a), by rw [List.map_take, List.map_drop], fun x hx => List.mem_of_mem_drop (List.mem_of_mem_take hx), ?_⟩
  rw [List.length_take, List.length_drop]
  omega
theorem some_tail {kind many : Nat} {z5 z7 : Option D} (φ : Fd) (hm : many ≤ 8) (ht : 0 ≤ φ.told) :
    ∃ rows φ', someT (SE kind many BR [] z5 z7 none none none none none) φ = .rt (rws rows) φ' ∧ (∀ x ∈ rows, x ∈ RT) ∧ rows.length ≤ 8 ∧ 0 ≤ φ'.told := by
  by_cases h0 : kind = 0
  · subst h0
    obtain ⟨zs, φ', e1, e2, e3, e4⟩ := lc_fd (T := tgN 7) (tst := bYes) (vs := [7]) (elt := (eBin gIx (eVar 1) (eCall F__law_draw (aCons (eVar 0) (aCons (eInt 240) aNil))))) (I := iRg1 (aCons (eVar 3) aNil)) (ρ := SE 0 many BR [] z5 z7 none none none none none) (φ := φ) (φ1 := φ) (List.range many) (fun (k : Nat) => D.int k) row (fun x => x ∈ RT) (rg1_ok (n := many) (one_ok (v_ok rfl)) (by omega)) (by rw [List.length_range]; omega) ht (by
      intro j hj φ ht
      obtain ⟨d, φ', hd, t', dd⟩ := drw φ ht 240 (by decide) (by decide)
      have hd' : d < RT.length := by rw [RT_len]; exact hd
      exact ⟨_, gw RT d, φ', rfl, rfl, gw_mem hd', bin_ok (v_ok rfl) (dd 0 _ _ rfl rfl) (gIx_rows hd'), t'⟩)
    rw [List.length_range] at e3
    exact ⟨zs, φ', seq_nx (yesK (kind := 0) rfl rfl (seq_one (set_ok e1))) (seq_nx (skipK (kind := 0) rfl (by decide)) (seq_nx (skipK (kind := 0) rfl (by decide)) (seq_nx (skipG (kind := 0) rfl (by decide)) (some_ret φ' (by omega))))), e2, by omega, e4⟩
  · by_cases h1 : kind = 1
    · subst h1
      obtain ⟨C, G, w7, φ', e1, hG, hl, t'⟩ := some_pops (kind := 1) (many := many) (z5 := z5) (z8 := none) (z9 := none) (z10 := none) (z11 := none) (z12 := none) (List.range many) (B := BR) (F := []) (z7 := z7) φ BR_RT (by intro x hx; cases hx) (by rw [List.length_range, BR_len]; exact hm) (by rw [BR_len]; decide) (by rw [List.length_range]; show 0 + many ≤ 1000; omega) ht
      rw [List.length_range] at hl
      have hl' : G.length = 0 + many := hl
      exact ⟨G, φ', seq_nx (skipK (kind := 1) rfl (by decide)) (seq_nx (yesK (kind := 1) rfl rfl (seq_one (for_ok (rg1_ok (n := many) (one_ok (v_ok rfl)) (by omega)) e1))) (seq_nx (skipK (kind := 1) rfl (by decide)) (seq_nx (skipG (kind := 1) rfl (by decide)) (some_ret φ' (by omega))))), hG, by omega, t'⟩
    · by_cases h2 : kind = 2
      · subst h2
        obtain ⟨a, φ1, ha, t1, d1⟩ := drw φ ht 8 (by decide) (by decide)
        obtain ⟨G, hG, mG, lG⟩ := cut_map BR (some (a : Int)) (some ((a : Int) + (many : Int)))
        rw [BR_len] at lG
        have e1 : eSl (eVar 4) (oSome (eVar 8)) (oSome (eBin gAdd (eVar 8) (eVar 3))) (SE 2 many BR [] z5 z7 (some (.int (a : Int))) none none none none) φ1 = .ok (rws G) φ1 := by
          have : gSl (rws BR) (some (a : Int)) (some ((a : Int) + (many : Int))) = some (rws G) := by
            show some (D.lst (cutD (BR.map row) _ _)) = _
            rw [hG]
            rfl
          unfold eSl
          show (O.ok (rws BR) φ1).bind _ = _
          show ofO (gSl (rws BR) (some (a : Int)) (some ((a : Int) + (many : Int)))) φ1 = _
          rw [this]
          rfl
        exact ⟨G, φ1, seq_nx (skipK (kind := 2) rfl (by decide)) (seq_nx (skipK (kind := 2) rfl (by decide)) (seq_nx (yesK (kind := 2) rfl rfl (seq_nx (set_ok (d1 0 _ _ rfl rfl)) (seq_one (set_ok e1)))) (seq_nx (skipG (kind := 2) rfl (by decide)) (some_ret φ1 (by omega))))), fun x hx => BR_RT x (mG x hx), lG, t1⟩
      · obtain ⟨G, w7, w9, w10, w11, w12, φ', e1, hG, hl, t'⟩ := some_more (kind := kind) (many := many) (B := BR) (z5 := z5) (z8 := none) (List.range many) (F := []) (z7 := z7) (z9 := none) (z10 := none) (z11 := none) (z12 := none) φ (by intro x hx; cases hx) (by rw [List.length_range]; show 0 + many ≤ 1000; omega) ht
        rw [List.length_range] at hl
        have hl' : G.length ≤ 0 + many := hl
        exact ⟨G, φ', seq_nx (skipK (kind := kind) rfl (by omega)) (seq_nx (skipK (kind := kind) rfl (by omega)) (seq_nx (skipK (kind := kind) rfl (by omega)) (seq_nx (yesG (kind := kind) rfl (by omega) (seq_one (for_ok (rg1_ok (n := many) (one_ok (v_ok rfl)) (by omega)) e1))) (some_ret φ' (by omega))))), hG, by omega, t'⟩
theorem f_some (φ : Fd) (ht : 0 ≤ φ.told) : ∃ rows φ', F__law_some [.feed, rws RT] φ = .ok (rws rows) φ' ∧ (∀ x ∈ rows, x ∈ RT) ∧ rows.length ≤ 8 ∧ 0 ≤ φ'.told := by
  obtain ⟨kind, φ1, hk, t1, d1⟩ := drw φ ht 5 (by decide) (by decide)
  obtain ⟨m0, φ2, hm0, t2, d2⟩ := drw φ1 t1 5 (by decide) (by decide)
  obtain ⟨c, φ3, hc, t3, d3⟩ := drw φ2 t2 8 (by decide) (by decide)
  have tc : (bCmp gEq (eCall F__law_draw (aCons (eVar 0) (aCons (eInt 8) aNil))) (eInt 0)) [some .feed, some (rws RT), some (.int (kind : Int)), some (.int (m0 : Int)), none, none, none, none, none, none, none, none, none, none, none] φ2 = .ok (decide ((c : Int) = 0)) φ3 := cmp_ok (d3 0 _ _ rfl rfl) rfl (eq_int _ _)
  have mid : ∃ many φ4, many ≤ 8 ∧ 0 ≤ φ4.told ∧ (sIf (bCmp gEq (eCall F__law_draw (aCons (eVar 0) (aCons (eInt 8) aNil))) (eInt 0)) (sSeq (sSet 3 (eCall F__law_draw (aCons (eVar 0) (aCons (eInt 9) aNil)))) sNil) sNil) [some .feed, some (rws RT), some (.int (kind : Int)), some (.int (m0 : Int)), none, none, none, none, none, none, none, none, none, none, none] φ2 = .nx [some .feed, some (rws RT), some (.int (kind : Int)), some (.int ((many : Nat) : Int)), none, none, none, none, none, none, none, none, none, none, none] φ4 := by
    by_cases h : (c : Int) = 0
    · obtain ⟨m, φ4, hm, t4, d4⟩ := drw φ3 t3 9 (by decide) (by decide)
      exact ⟨m, φ4, by omega, t4, if_yes (tc.trans (by rw [decide_eq_true h])) (seq_one (set_ok (d4 0 _ _ rfl rfl)))⟩
    · exact ⟨m0, φ3, by omega, t3, if_skip (tc.trans (by rw [decide_eq_false h]))⟩
  obtain ⟨many, φ4, hm, t4, e4⟩ := mid
  obtain ⟨rows, φ', e5, hR, hl, t5⟩ := some_tail (kind := kind) (many := many) (z5 := some (.int 5)) (z7 := none) φ4 hm t4
  have eb : (eLst (aCons (eLst (aCons (eInt 1) (aCons (eUn gNeg (eInt 1)) (aCons (eUn gNeg (eInt 1)) (aCons (eUn gNeg (eInt 1)) (aCons (eUn gNeg (eInt 1)) (aCons (eUn gNeg (eInt 1)) (aCons (eUn gNeg (eInt 1)) (aCons (eInt 1) aNil))))))))) (aCons (eLst (aCons (eInt 2) (aCons (eInt 2) (aCons (eInt 0) (aCons (eInt 0) (aCons (eInt 0) (aCons (eInt 0) (aCons (eInt 0) (aCons (eInt 0) aNil))))))))) aNil))) [some .feed, some (rws RT), some (.int (kind : Int)), some (.int ((many : Nat) : Int)), none, none, none, none, none, none, none, none, none, none, none] φ4 = .ok (rws B2) φ4 := by kernel_rfl
  exact ⟨rows, φ', run_rt (seq_nx (set_ok (d1 0 _ _ rfl rfl)) (seq_nx (set_ok (d2 0 _ _ rfl rfl)) (seq_nx e4 (seq_nx (set_ok eb) (seq_nx (for_ok (rg1_ok (n := 6) rfl (by decide)) (base_loop _ _ _ _ φ4)) (seq_nx (set_ok rfl) e5)))))), hR, hl, t5⟩
end Pf

set_option Elab.async false
set_option linter.all false
set_option maxRecDepth 100000
set_option maxHeartbeats 1000000
namespace Pf
open PySem PySem.Spec PyProof.Rows L2

def shl (n : Nat) (d : D) : Prop := d.py.canLay0 = true ∧ d.py.depth ≤ n
theorem shl_row (x : List Int) : shl 1 (row x) := ⟨emb_row.lay x, emb_row.dep x⟩
theorem shl_rws (x : List (List Int)) : shl 2 (rws x) := ⟨emb_rws.lay x, emb_rws.dep x⟩
theorem shl_shp {n : Nat} {d : D} (h : shl n d) (hn : n ≤ 64) : d.shp = true := by
  unfold D.shp SeqAt.shaped
  rw [h.1, Bool.true_and, decide_eq_true_eq]
  have := h.2
  omega
theorem shl_two {n : Nat} {a b : D} (ha : shl n a) (hb : shl n b) : shl (n + 1) (.lst [a, b]) := by
  have py : (D.lst [a, b]).py = .list [a.py, b.py] := rfl
  have h1 := ha.2
  have h2 := hb.2
  unfold shl
  rw [py]
  constructor
  · rw [PyData.canLay0, PyData.canLayAll0, PyData.canLayAll0, PyData.canLayAll0, ha.1, hb.1]; rfl
  · rw [PyData.depth, PyData.depthAll, PyData.depthAll, PyData.depthAll]; omega
theorem shl_three {n : Nat} {a b c : D} (ha : shl n a) (hb : shl n b) (hc : shl n c) : shl (n + 1) (.lst [a, b, c]) := by
  have py : (D.lst [a, b, c]).py = .list [a.py, b.py, c.py] := rfl
  have h1 := ha.2
  have h2 := hb.2
  have h3 := hc.2
  unfold shl
  rw [py]
  constructor
  · rw [PyData.canLay0, PyData.canLayAll0, PyData.canLayAll0, PyData.canLayAll0, PyData.canLayAll0, ha.1, hb.1, hc.1]; rfl
  · rw [PyData.depth, PyData.depthAll, PyData.depthAll, PyData.depthAll, PyData.depthAll]; omega
theorem shl_up {n m : Nat} {d : D} (h : shl n d) (hn : n ≤ m) : shl m d := ⟨h.1, Nat.le_trans h.2 hn⟩
theorem f_wholes8 {r : List Int} (φ : Fd) (h : r.length = 8) : F__law_wholes [row r, .int 8] φ = .ok (.bl true) φ := by
  have := f_wholes (r := r) φ (by omega)
  rw [h] at this
  exact this
theorem ne_row (x : List Int) : gNe (row x) (row x) = some (.bl false) := ne_false emb_row (by decide) x
/-! ## mirrors, rightly -/
theorem dot_sm {g x y : List Int} (hg : g ∈ RT) (hx : Sm x) (hy : Sm y) : dot (mir g x) (mir g y) = dot x y := dot_mir hg hx.1 hy.1
abbrev H3 (r x : List Int) (rows : List (List Int)) : D := .lst [row r, row x, rws rows]
abbrev lb__law_mirrored_right_1 : SS := (sSeq (sSet 9 (eCall F__law_mirror (aCons (eVar 10) (aCons (eVar 9) aNil)))) sNil)
theorem f_mright {rows : List (List Int)} (hr : ∀ r ∈ rows, r ∈ RT) (hl : rows.length ≤ 1000) (φ : Fd) (ht : 0 ≤ φ.told) : ∃ φ', F__law_mirrored_right [.feed, rws RT, rws rows] φ = .ok (.bl true) φ' ∧ 0 ≤ φ'.told := by
  obtain ⟨x, φ1, dx, hx, t1⟩ := f_lrow φ ht
  obtain ⟨o, φ2, do', ho, t2⟩ := f_lrow φ1 t1
  obtain ⟨k, φ3, hk, t3, d3⟩ := drw φ2 t2 240 (by decide) (by decide)
  have hk' : k < RT.length := by rw [RT_len]; exact hk
  obtain ⟨r, hrr, er⟩ : ∃ r, r ∈ RT ∧ gIx (rws RT) (.int (k : Int)) = some (row r) := ⟨gw RT k, gw_mem hk', gIx_rows hk'⟩
  have hm := hx.mir hrr
  have l8 : (mir r x).length = 8 := hm.1.1
  have hby := mby_sm hr hx
  have b8 : (mby rows x).length = 8 := hby.1.1
  have shH : (H3 r x rows).shp = true := shl_shp (shl_three (shl_up (shl_row r) (by decide)) (shl_up (shl_row x) (by decide)) (shl_rws rows)) (by decide)
  have eR : ∀ {ρ : En} (h : ρ[2]? = some (some (rws rows))) (hk : ∀ z : D, ((wipeE ρ [10]).set 10 (some z))[10]? = some (some z)), eLc (iSeq (eVar 2)) (tgN 10) bYes (eCB gList (aCons (eVar 10) aNil)) [10] ρ φ3 = .ok (rws rows) φ3 := fun h hk => by
    rw [lcm_ok rows row row (seq_l (v_ok h)) (size_le (by omega)) fun y hy => ⟨_, rfl, lstr_ok (v_ok (hk _))⟩]
    rfl
  have hand : ∀ {ρ : En} (h5 : ρ[5]? = some (some (row r))) (h3 : ρ[3]? = some (some (row x))) (h2 : ρ[2]? = some (some (rws rows))), (eLst (aCons (eVar 5) (aCons (eVar 3) (aCons (eVar 2) aNil)))) ρ φ3 = .ok (H3 r x rows) φ3 := fun h5 h3 h2 => lst_ok (cons_ok (v_ok h5) (two_ok (v_ok h3) (v_ok h2))) (size_le (show 3 ≤ 1000000 by decide))
  have i0 : gIx (H3 r x rows) (.int 0) = some (row r) := gIx_lst (k := 0) rfl
  have i1 : gIx (H3 r x rows) (.int 1) = some (row x) := gIx_lst (k := 1) rfl
  have i2 : gIx (H3 r x rows) (.int 2) = some (rws rows) := gIx_lst (k := 2) rfl
  obtain ⟨M, hM⟩ := max1_some (ns := (mir r x).map fun a => (if a < 0 then -a else a)) (by
    intro e
    have := congrArg List.length e
    rw [List.length_map, l8] at this
    cases this)
  have eM : eLc (iSeq (eVar 8)) (tgN 11) bYes (eCB gAbs (aCons (eVar 11) aNil)) [11] [some .feed, some (rws RT), some (rws rows), some (row x), some (row o), some (row r), some (H3 r x rows), some (row (mir r x)), some (row (mir r x)), none, none, none] φ3 = .ok (row ((mir r x).map fun a => (if a < 0 then -a else a))) φ3 := by
    rw [lcm_ok (mir r x) D.int (fun a => D.int (if a < 0 then -a else a)) (seq_l (v_ok rfl)) (size_le (by omega)) fun a ha => ⟨_, rfl, cb1_ok (v_ok rfl) rfl⟩]
    unfold row
    rw [List.map_map]; rfl
  obtain ⟨ρ', h1, hs, z, rfl⟩ := for_fold (T := tgN 10) (φ := φ3) (e := row) (B := lb__law_mirrored_right_1) (fun y g => mir g y) (fun y ρ => Sm y ∧ ∃ z, ρ = [some .feed, some (rws RT), some (rws rows), some (row x), some (row o), some (row r), some (H3 r x rows), some (row (mir r x)), some (row (mir r x)), some (row y), z, none]) rows x (ρ := [some .feed, some (rws RT), some (rws rows), some (row x), some (row o), some (row r), some (H3 r x rows), some (row (mir r x)), some (row (mir r x)), some (row x), none, none]) ⟨hx, _, rfl⟩ (by
    rintro g hg y ρ ⟨hy, z, rfl⟩
    exact ⟨_, rfl, _, .inl (seq_one (set_ok (call_ok (two_ok (v_ok rfl) (v_ok rfl)) (s_lmir φ3 (hr g hg) hy)))), hy.mir (hr g hg), _, rfl⟩)
  rw [show List.foldl (fun y g => mir g y) x rows = mby rows x from rfl] at h1
  refine ⟨φ3, run_rt (seq_nx (set_ok (call_ok (one_ok (v_ok rfl)) dx)) (seq_nx (set_ok (call_ok (one_ok (v_ok rfl)) do')) (seq_nx (set_ok (bin_ok (v_ok rfl) (d3 0 _ _ rfl rfl) er)) (seq_nx (set_ok (lst_ok (cons_ok (lstr_ok (v_ok rfl)) (two_ok (lstr_ok (v_ok rfl)) (eR rfl fun _ => rfl))) (size_le (show 3 ≤ 1000000 by decide)))) (seq_nx (set_ok (call_ok (two_ok (bin_ok (v_ok rfl) rfl i0) (bin_ok (v_ok rfl) rfl i1)) (s_mir φ3 hrr hx))) (seq_nx (set_ok (call_ok (two_ok (v_ok rfl) (v_ok rfl)) (s_lmir φ3 hrr hx))) (seq_nx (if_skip (or_no (not_ok (trub_ok (b := true) (call_ok (two_ok (v_ok rfl) rfl) (f_wholes8 φ3 l8)))) (or_no (cmp_ok (v_ok rfl) (v_ok rfl) (ne_row _)) (cmp_ok (v_ok rfl) (hand rfl rfl rfl) (ne_self shH))))) (seq_nx (if_skip (or_no (cmp_ok (call_ok (two_ok (v_ok rfl) (v_ok rfl)) (f_lproduct φ3 hm.rw hm.rw)) (call_ok (two_ok (v_ok rfl) (v_ok rfl)) (f_lproduct φ3 hx.rw hx.rw)) ?_) (cmp_ok (call_ok (two_ok (v_ok rfl) (call_ok (two_ok (v_ok rfl) (v_ok rfl)) (s_lmir φ3 hrr ho))) (f_lproduct φ3 hm.rw (ho.mir hrr).rw)) (call_ok (two_ok (v_ok rfl) (v_ok rfl)) (f_lproduct φ3 hx.rw ho.rw)) ?_))) (seq_nx (if_skip ?_) (seq_nx (set_ok (lstr_ok (v_ok rfl))) (seq_nx (for_ok (seq_l (v_ok rfl)) h1) (seq_nx (set_ok (call_ok (two_ok (bin_ok (v_ok rfl) rfl i2) (bin_ok (v_ok rfl) rfl i1)) (f_mby φ3 hr hx))) (seq_nx (if_skip (or_no (not_ok (trub_ok (b := true) (call_ok (two_ok (v_ok rfl) rfl) (f_wholes8 φ3 b8)))) (or_no (cmp_ok (v_ok rfl) (v_ok rfl) (ne_row _)) (cmp_ok (v_ok rfl) (hand rfl rfl rfl) (ne_self shH))))) (seq_nx (app_ok (l := (mby rows x).map D.int) rfl rfl (size_lt (by rw [List.length_map]; omega))) (seq_rt (ret_ok (bin_ok (call_ok (two_ok (bin_ok (v_ok rfl) rfl i2) (bin_ok (v_ok rfl) rfl i1)) (f_mby φ3 hr hx)) (v_ok rfl) ((eq_rows _ _).trans (by rw [decide_eq_true rfl]))))))))))))))))))), t3⟩
  · rw [dot_sm hrr hx hx]; exact (ne_int _ _).trans (by rw [decide_eq_true rfl]; rfl)
  · rw [dot_sm hrr hx ho]; exact (ne_int _ _).trans (by rw [decide_eq_true rfl]; rfl)
  · refine (and_ok (b := decide (M < 100)) (k := false) (cmp_ok (cb1_ok eM hM) rfl rfl) fun _ => cmp_ok (call_ok (two_ok (bin_ok (v_ok rfl) rfl i0) (v_ok rfl)) (s_mir φ3 hrr hm)) (v_ok rfl) ?_).trans (by rw [Bool.and_false])
    rw [mir_mir hrr hx.1]
    exact ne_row _
end Pf

set_option Elab.async false
set_option linter.all false
set_option maxRecDepth 100000
set_option maxHeartbeats 1000000
namespace Pf
open PySem PySem.Spec PyProof.Rows L2

theorem lead_list {r o : List Int} (hr : r ∈ RT) (ho : o ∈ RT) : ∃ L : List (List Int), leadP r o = rws L ∧ L.length ≤ 2 ∧ (∀ g ∈ L, g ∈ RT) ∧ mby L r = o := by
  unfold leadP
  by_cases hne : r = o
  · rw [if_pos hne]
    exact ⟨[], rfl, by decide, (by intro g hg; cases hg), hne⟩
  · rw [if_neg hne]
    by_cases h1 : isT (dot r o) = true
    · rw [if_pos h1]
      have hs := one1_iff hr ho hne
      rw [h1] at hs
      obtain ⟨own, e⟩ := Option.isSome_iff_exists.mp hs
      rw [e]
      obtain ⟨a, b⟩ := one1_some e
      exact ⟨[own], rfl, by simp, (by intro g hg; rw [List.mem_singleton.mp hg]; exact a), b⟩
    · rw [if_neg h1]
      obtain ⟨f, hf, q⟩ := two_ex hr ho hne fun h => h1 (decide_eq_true h)
      cases e : RT.find? (fun f => isT (dot (mir f r) o)) with
      | none =>
        have := List.find?_eq_none.mp e f hf
        exact absurd (decide_eq_true q) this
      | some g =>
        have hg := List.mem_of_find?_eq_some e
        have hT : isT (dot (mir g r) o) = true := List.find?_some (p := fun f => isT (dot (mir f r) o)) e
        have hm := mir_RT hg hr
        have hs := one1_iff hm ho (isT_ne hm hT)
        rw [hT] at hs
        obtain ⟨own, e2⟩ := Option.isSome_iff_exists.mp hs
        obtain ⟨a, b⟩ := one1_some e2
        refine ⟨[g, own], by show D.lst [row g, oR (one1 (mir g r) o)] = _; rw [e2]; rfl, by simp, ?_, b⟩
        intro k hk
        rcases List.mem_cons.mp hk with rfl | hk
        · exact hg
        · rw [List.mem_singleton.mp hk]; exact a
abbrev H2 (r o : List Int) : D := .lst [row r, row o]
abbrev lb__law_lead_right_1 : SS := (sSeq (sSet 6 (eCall F__law_mirror (aCons (eVar 7) (aCons (eVar 6) aNil)))) sNil)
theorem f_leadr {r o : List Int} (φ : Fd) (hr : r ∈ RT) (ho : o ∈ RT) : F__law_lead_right [rws RT, row r, row o] φ = .ok (.bl true) φ := by
  obtain ⟨L, eL, hl, hL, hm⟩ := lead_list hr ho
  have p1 := f_llead φ hr ho
  have p2 := f_lead φ hr ho
  rw [eL] at p1 p2
  have i0 : gIx (H2 r o) (.int 0) = some (row r) := gIx_lst (k := 0) rfl
  have i1 : gIx (H2 r o) (.int 1) = some (row o) := gIx_lst (k := 1) rfl
  have shH : (H2 r o).shp = true := shl_shp (shl_two (shl_row r) (shl_row o)) (by decide)
  obtain ⟨ρ', h1, hs, z, rfl⟩ := for_fold (T := tgN 7) (φ := φ) (e := row) (B := lb__law_lead_right_1) (fun y g => mir g y) (fun y ρ => y ∈ RT ∧ ∃ z, ρ = [some (rws RT), some (row r), some (row o), some (H2 r o), some (rws L), some (rws L), some (row y), z]) L r (ρ := [some (rws RT), some (row r), some (row o), some (H2 r o), some (rws L), some (rws L), some (row r), none]) ⟨hr, _, rfl⟩ (by
    rintro g hg y ρ ⟨hy, z, rfl⟩
    exact ⟨_, rfl, _, .inl (seq_one (set_ok (call_ok (two_ok (v_ok rfl) (v_ok rfl)) (s_lmir φ (hL g hg) (RT_sm hy))))), mir_RT (hL g hg) hy, _, rfl⟩)
  rw [show List.foldl (fun y g => mir g y) r L = mby L r from rfl, hm] at h1
  have t1 : (bOr (bCmp gIs (eVar 4) eNon) (bOr (bNot (bTru (eCall F__law_lists_same (aCons (eVar 5) (aCons (eVar 4) aNil))))) (bCmp gNe (eVar 3) (eLst (aCons (eVar 1) (aCons (eVar 2) aNil)))))) [some (rws RT), some (row r), some (row o), some (H2 r o), some (rws L), some (rws L), none, none] φ = .ok false φ :=
    or_no (cmp_ok (v_ok rfl) rfl rfl) (or_no (not_ok (trub_ok (b := true) (call_ok (two_ok (v_ok rfl) (v_ok rfl)) (f_lsame φ (by omega) fun x hx => by rw [RT_l8 (hL x hx)]; decide)))) (cmp_ok (v_ok rfl) (lst_ok (two_ok (v_ok rfl) (v_ok rfl)) (size_le (show 2 ≤ 1000000 by decide))) (ne_self shH)))
  have t2 : (bOr (bCmp gNe (eVar 6) (eVar 2)) (bCmp gGtA (eCB gLen (aCons (eVar 4) aNil)) (eInt 2))) [some (rws RT), some (row r), some (row o), some (H2 r o), some (rws L), some (rws L), some (row o), z] φ = .ok false φ :=
    or_no (cmp_ok (v_ok rfl) (v_ok rfl) (ne_row o)) ((cmp_ok (b := decide ((2 : Int) < (L.length : Int))) (lens_ok (v_ok rfl)) rfl rfl).trans (by rw [decide_eq_false (by omega)]))
  have e5 : gEq (rws L) (rws L) = some (.bl true) := (emb_rws.gEq (by decide) L L).trans (by rw [decide_eq_true rfl])
  exact run_rt (seq_nx (set_ok (lst_ok (two_ok (lstr_ok (v_ok rfl)) (lstr_ok (v_ok rfl))) (size_le (show 2 ≤ 1000000 by decide)))) (seq_nx (set_ok (call_ok (cons_ok (v_ok rfl) (two_ok (v_ok rfl) (v_ok rfl))) p1)) (seq_nx (set_ok (call_ok (two_ok (bin_ok (v_ok rfl) rfl i0) (bin_ok (v_ok rfl) rfl i1)) p2)) (keep_nx (seq_nx (if_skip t1) (seq_nx (set_ok (v_ok rfl)) (seq_nx (for_ok (seq_l (v_ok rfl)) h1) (seq_one (if_skip t2))))) (seq_nx (app_ok (l := L.map row) rfl rfl (size_lt (by rw [List.length_map]; omega))) (seq_rt (ret_ok (bin_ok (call_ok (two_ok (bin_ok (v_ok rfl) rfl i0) (bin_ok (v_ok rfl) rfl i1)) p2) (v_ok rfl) e5))))))))
/-! ## the closed list, rightly -/
abbrev lb__law_closed_right_2 : SS := (sSeq (sIf (bCmp gGtA (eCB gLen (aCons (eVar 4) aNil)) (eInt 0)) (sSeq (sSet 9 (eBin gIx (eVar 4) (eCall F__law_draw (aCons (eVar 0) (aCons (eCB gLen (aCons (eVar 4) aNil)) aNil))))) (sSeq (sSet 10 (eBin gIx (eVar 4) (eCall F__law_draw (aCons (eVar 0) (aCons (eCB gLen (aCons (eVar 4) aNil)) aNil))))) (sSeq (sIf (bOr (bVal (eTIn true (eCB gTuple (aCons (eCall F__law_mirror (aCons (eVar 9) (aCons (eVar 10) aNil))) aNil)) (eVar 6))) (bOr (bVal (eTIn true (eCB gTuple (aCons (eLc (iSeq (eVar 9)) (tgN 12) bYes (eBin gSub (eInt 0) (eVar 12)) [12]) aNil)) (eVar 6))) (bCmp (gIn true) (eVar 9) (eVar 1)))) (sSeq (sRet (eBl false)) sNil) sNil) sNil))) sNil) sNil)
theorem clr_keys {C : List (List Int)} (hl : C.length ≤ 1000) {y0 y1 y2 y3 y5 : Option D} (φ : Fd) : ∃ z K, forGo (tgN 7) (sSeq (sPutT 6 (eBl true) (eCB gTuple (aCons (eVar 7) aNil))) sNil) (C.map row) [y0, y1, y2, y3, some (rws C), y5, some (.dt []), none, none, none, none, none, none] φ = .nx [y0, y1, y2, y3, some (rws C), y5, some (dD K), z, none, none, none, none, none] φ ∧ ∀ x, x ∈ K ↔ x ∈ C := by
  obtain ⟨ρ', h1, hb, z, rfl⟩ := for_inv (T := tgN 7) (φ := φ) (e := row) (B := (sSeq (sPutT 6 (eBl true) (eCB gTuple (aCons (eVar 7) aNil))) sNil)) (fun pre ρ => pre.length ≤ 1000 ∧ ∃ z, ρ = [y0, y1, y2, y3, some (rws C), y5, some (dD (pre.foldl put1 [])), z, none, none, none, none, none]) C [] (ρ := [y0, y1, y2, y3, some (rws C), y5, some (.dt []), none, none, none, none, none, none]) ⟨by simp, _, rfl⟩ (by
    rintro pre x post ρ e ⟨hp, z, rfl⟩
    have hlen : (pre.foldl put1 []).length ≤ 1000 := by have := put1_len pre []; simp at this; omega
    have hp2 : (pre ++ [x]).length ≤ 1000 := by
      have : ([] ++ C).length = (pre ++ x :: post).length := by rw [e]
      simp at this ⊢
      omega
    refine ⟨_, rfl, _, .inl (seq_one (putT_ok (f := T1) (x := x) rfl rfl (tupl_ok (v_ok rfl)) (by omega))), hp2, some (row x), ?_⟩
    rw [List.foldl_append]
    rfl)
  exact ⟨z, C.foldl put1 [], h1, (uq_ok C).2⟩
theorem clr_turn {rows C K : List (List Int)} (hC : ∀ x ∈ C, x ∈ RT) (h2 : ∀ x ∈ C, ∀ y ∈ C, mir x y ∈ C) (h3 : ∀ x ∈ C, neg x ∈ C) (hK : ∀ x, x ∈ K ↔ x ∈ C) (hl : C.length ≤ 1000) {y2 y3 y5 y7 z8 z9 z10 : Option D} (φ : Fd) (ht : 0 ≤ φ.told) :
    ∃ w9 w10 φ', lb__law_closed_right_2 [some .feed, some (rws RT), y2, y3, some (rws C), y5, some (dD K), y7, z8, z9, z10, none, none] φ = .nx [some .feed, some (rws RT), y2, y3, some (rws C), y5, some (dD K), y7, z8, w9, w10, none, none] φ' ∧ 0 ≤ φ'.told := by
  have t : (bCmp gGtA (eCB gLen (aCons (eVar 4) aNil)) (eInt 0)) [some .feed, some (rws RT), y2, y3, some (rws C), y5, some (dD K), y7, z8, z9, z10, none, none] φ = .ok (decide ((0 : Int) < (C.length : Int))) φ := cmp_ok (lens_ok (v_ok rfl)) rfl rfl
  by_cases h : C = []
  · exact ⟨z9, z10, φ, seq_one (if_skip (t.trans (by rw [h]; rfl))), ht⟩
  · have hp := List.length_pos_iff.mpr h
    obtain ⟨a, φ1, ha, t1, d1⟩ := drw φ ht C.length hp (by omega)
    obtain ⟨b, φ2, hb, t2, d2⟩ := drw φ1 t1 C.length hp (by omega)
    have mx := gw_mem ha
    have my := gw_mem hb
    have ea := gIx_rows ha
    have eb := gIx_rows hb
    generalize gw C a = x at mx ea
    generalize gw C b = y at my eb
    have q1 : bVal (eTIn true (eCB gTuple (aCons (eCall F__law_mirror (aCons (eVar 9) (aCons (eVar 10) aNil))) aNil)) (eVar 6)) [some .feed, some (rws RT), y2, y3, some (rws C), y5, some (dD K), y7, z8, some (row x), some (row y), none, none] φ2 = .ok false φ2 :=
      (tnot_ok (f := T1) (l := K) (x := mir x y) (tupl_ok (call_ok (two_ok (v_ok rfl) (v_ok rfl)) (s_lmir φ2 (hC x mx) (RT_sm (hC y my))))) (v_ok rfl) rfl).trans (by rw [decide_eq_true ((hK _).mpr (h2 x mx y my))]; rfl)
    have q2 : bVal (eTIn true (eCB gTuple (aCons (eLc (iSeq (eVar 9)) (tgN 12) bYes (eBin gSub (eInt 0) (eVar 12)) [12]) aNil)) (eVar 6)) [some .feed, some (rws RT), y2, y3, some (rws C), y5, some (dD K), y7, z8, some (row x), some (row y), none, none] φ2 = .ok false φ2 :=
      (tnot_ok (f := T1) (l := K) (x := neg x) (tupl_ok (neg_ok (by rw [RT_l8 (hC x mx)]; decide) rfl fun _ => rfl)) (v_ok rfl) rfl).trans (by rw [decide_eq_true ((hK _).mpr (h3 x mx))]; rfl)
    have q3 : bCmp (gIn true) (eVar 9) (eVar 1) [some .feed, some (rws RT), y2, y3, some (rws C), y5, some (dD K), y7, z8, some (row x), some (row y), none, none] φ2 = .ok false φ2 := cmp_ok (v_ok rfl) (v_ok rfl) ((notin_rows x RT).trans (by rw [decide_eq_true (hC x mx)]; rfl))
    exact ⟨_, _, φ2, seq_one (if_yes (t.trans (by rw [decide_eq_true (by omega)])) (seq_nx (set_ok (bin_ok (v_ok rfl) (d1 0 _ _ rfl (lens_ok (v_ok rfl))) ea)) (seq_nx (set_ok (bin_ok (v_ok rfl) (d2 0 _ _ rfl (lens_ok (v_ok rfl))) eb)) (seq_one (if_skip (or_no q1 (or_no q2 q3))))))), t2⟩
theorem f_closr {rows : List (List Int)} (hr : ∀ r ∈ rows, r ∈ RT) (hl : rows.length ≤ 8) (φ : Fd) (ht : 0 ≤ φ.told) : ∃ φ', F__law_closed_right [.feed, rws RT, rws rows] φ = .ok (.bl true) φ' ∧ 0 ≤ φ'.told := by
  obtain ⟨c1, c2, c3⟩ := clo_ok hr
  have cl := (clo_len hr).1
  have p1 := f_close hr (by omega) φ
  have p2 : ∀ φ, F_closed_by_mirrors [rws rows] φ = .ok (rws (clo rows)) φ := fun φ => f_closed hr (by omega) φ
  generalize clo rows = C at c1 c2 c3 cl p1 p2
  have e0 : eLc (iSeq (eVar 2)) (tgN 7) bYes (eCB gList (aCons (eVar 7) aNil)) [7] [some .feed, some (rws RT), some (rws rows), none, none, none, none, none, none, none, none, none, none] φ = .ok (rws rows) φ := by
    rw [lcm_ok rows row row (seq_l (v_ok rfl)) (size_le (by omega)) fun y hy => ⟨_, rfl, lstr_ok (v_ok rfl)⟩]
    rfl
  obtain ⟨z7, K, h1, hK⟩ := clr_keys (C := C) (by omega) (y0 := some .feed) (y1 := some (rws RT)) (y2 := some (rws rows)) (y3 := some (rws rows)) (y5 := some (rws C)) φ
  obtain ⟨ρ', φ', h2, w8, w9, w10, rfl, t'⟩ := for_st (T := tgN 8) (e := fun (k : Nat) => D.int k) (B := lb__law_closed_right_2) (fun pre ρ φ => ∃ w8 w9 w10, ρ = [some .feed, some (rws RT), some (rws rows), some (rws rows), some (rws C), some (rws C), some (dD K), z7, w8, w9, w10, none, none] ∧ 0 ≤ φ.told) (List.range 20) [] (ρ := [some .feed, some (rws RT), some (rws rows), some (rws rows), some (rws C), some (rws C), some (dD K), z7, none, none, none, none, none]) (φ := φ) ⟨_, _, _, rfl, ht⟩ (by
    rintro pre k post ρ φ e ⟨w8, w9, w10, rfl, ht⟩
    obtain ⟨v9, v10, φ', hb, t'⟩ := clr_turn (rows := rows) c1 c2 c3 hK (by omega) (y2 := some (rws rows)) (y3 := some (rws rows)) (y5 := some (rws C)) (y7 := z7) (z8 := some (.int (k : Int))) (z9 := w9) (z10 := w10) φ ht
    exact ⟨_, rfl, _, φ', .inl hb, _, _, _, rfl, t'⟩)
  have ner : gNe (rws rows) (rws rows) = some (.bl false) := ne_false emb_rws (by decide) rows
  have same : F__law_lists_same [rws C, rws C] φ = .ok (.bl true) φ := f_lsame φ (by omega) fun x hx => by rw [RT_l8 (c1 x hx)]; decide
  exact ⟨φ', run_rt (seq_nx (set_ok e0) (seq_nx (set_ok (call_ok (one_ok (v_ok rfl)) p1)) (seq_nx (set_ok (call_ok (one_ok (v_ok rfl)) (p2 φ))) (seq_nx (if_skip (or_no (not_ok (trub_ok (b := true) (call_ok (two_ok (v_ok rfl) (v_ok rfl)) same))) (cmp_ok (v_ok rfl) (v_ok rfl) ner))) (seq_nx (set_ok rfl) (seq_nx (for_ok (seq_l (v_ok rfl)) h1) (seq_nx (for_ok (rg1_ok (n := 20) rfl (by decide)) h2) (seq_nx (set_ok (call_ok (one_ok (v_ok rfl)) (f_round hr φ'))) (seq_nx (if_skip (or_no (not_ok (trub_ok (b := true) (call_ok (one_ok (v_ok rfl)) (f_whole _ φ')))) (or_no (cmp_ok (v_ok rfl) (call_ok (two_ok (v_ok rfl) (v_ok rfl)) (f_lround hr φ')) ((ne_int _ _).trans (by rw [decide_eq_true rfl]; rfl))) (cmp_ok (v_ok rfl) (v_ok rfl) ner)))) (seq_nx (app_ok (l := C.map row) rfl rfl (size_lt (by rw [List.length_map]; omega))) (seq_rt (ret_ok (bin_ok (lens_ok (call_ok (one_ok (v_ok rfl)) (p2 φ'))) (lens_ok (v_ok rfl)) ((eq_int _ _).trans (by rw [decide_eq_true rfl]))))))))))))))), t'⟩
end Pf

set_option Elab.async false
set_option linter.all false
set_option maxRecDepth 100000
set_option maxHeartbeats 1000000
namespace Pf
open PySem PySem.Spec PyProof.Rows L2

theorem rnd_is {rows : List (List Int)} (hr : ∀ r ∈ rows, r ∈ RT) {n : Nat} (h1 : 1 ≤ n) (h2 : BR.map (itr (mby rows) n) = BR) {b : List Int} (hb : b ∈ BR) (h3 : ∀ t, 1 ≤ t → t < n → itr (mby rows) t b ≠ b) : rnd (mby rows) = n := by
  obtain ⟨r1, _, r3, r4⟩ := rnd_ok (mby_orth hr)
  generalize rnd (mby rows) = m at r1 r3 r4 ⊢
  rcases Nat.lt_trichotomy m n with h | h | h
  · have e : BR.map (itr (mby rows) m) = BR.map id := by rw [r3, List.map_id]
    exact absurd (List.map_inj_left.mp e b hb) (h3 m r1 h)
  · exact h
  · exact absurd h2 (r4 n h1 h)
theorem allNot {f : List Int → List Int} {b : List Int} {n : Nat} (h : (List.range n).all (fun t => decide (t = 0) || !decide (itr f t b = b)) = true) : ∀ t, 1 ≤ t → t < n → itr f t b ≠ b := fun t h1 h2 e => by
  have := List.all_eq_true.mp h t (List.mem_range.mpr h2)
  rw [decide_eq_false (show ¬ t = 0 by omega), decide_eq_true e] at this
  cases this
def nr0 : List Int := [-2, -2, 0, 0, 0, 0, 0, 0]
def X34 : List (List Int) := [[-2, 2, 0, 0, 0, 0, 0, 0], [0, -2, 2, 0, 0, 0, 0, 0]]
theorem X34_RT : ∀ x ∈ X34, x ∈ RT := by decide +kernel
theorem k30a : BR.map (itr (mby BR) 30) = BR := by decide +kernel
theorem k30b : (List.range 30).all (fun t => decide (t = 0) || !decide (itr (mby BR) t r0 = r0)) = true := by decide +kernel
theorem k3a : BR.map (itr (mby X34) 3) = BR := by decide +kernel
theorem k3b : (List.range 3).all (fun t => decide (t = 0) || !decide (itr (mby X34) t [-2, 2, 0, 0, 0, 0, 0, 0] = [-2, 2, 0, 0, 0, 0, 0, 0])) = true := by decide +kernel
theorem r0_BR : r0 ∈ BR := by decide
theorem rnd30 : rnd (mby BR) = 30 := rnd_is BR_RT (by decide) k30a r0_BR (allNot k30b)
theorem rnd3 : rnd (mby X34) = 3 := rnd_is X34_RT (by decide) k3a (b := [-2, 2, 0, 0, 0, 0, 0, 0]) (by decide) (allNot k3b)
theorem nil_RT : ∀ x ∈ ([] : List (List Int)), x ∈ RT := by intro x hx; cases hx
theorem rnd1 : rnd (mby []) = 1 := rnd_is nil_RT (Nat.le_refl _) (List.map_id BR) r0_BR fun t h1 h2 => by omega
theorem clo_nil : clo [] = [] := by
  unfold clo
  have : cls0 [] = [] := rfl
  rw [this]
  exact List.mergeSort_nil
theorem cls_r0 : cls0 [r0] = [r0, nr0] := by decide +kernel
theorem clo_r0 : clo [r0] = [nr0, r0] := by
  unfold clo
  rw [cls_r0]
  refine sort_is tot_row (List.pairwise_pair.mpr (by decide)) (List.Perm.swap ..)
theorem one_r0 : one1 r0 nr0 = some nr0 := by decide +kernel
theorem nr0_in : nr0 ∈ RT := by decide +kernel
theorem lead_r0 : leadP r0 nr0 = rws [nr0] := by
  unfold leadP
  rw [if_neg (by decide), if_pos (by decide), one_r0]
  rfl
theorem lead_self (r : List Int) : leadP r r = rws [] := if_pos rfl
/-- each product is met -/
def Pall (r : List Int) : Prop := ∀ g ∈ [(2 : Int), 1, 0, -1, -2], ∃ x ∈ RT, dot r x = g
theorem pall_b : [(2 : Int), 1, 0, -1, -2].all (fun g => RT.any fun x => decide (dot r0 x = g)) = true := by decide +kernel
theorem pall {r : List Int} (hr : r ∈ RT) : Pall r := by
  refine root_ind (Q := Pall) (fun g hg => ?_) (fun m hm r hr h g hg => ?_) r hr
  · obtain ⟨x, hx, q⟩ := List.any_eq_true.mp (List.all_eq_true.mp pall_b g hg)
    exact ⟨x, hx, of_decide_eq_true q⟩
  · obtain ⟨x, hx, e⟩ := h g hg
    refine ⟨mir m x, mir_RT hm hx, ?_⟩
    rw [← e, ← dot_mirR hm hr (mir_RT hm hx), mir_mir hm (RT_lat hx)]
abbrev lb_law_3 : SS := (sSeq (sMut 9 gApp (eLc (iRg1 (aCons (eInt 8) aNil)) (tgN 12) bYes (eBin gSub (eBin gMul (eInt 2) (eCB gInt (aCons (eBin gEq (eVar 12) (eBin gAdd (eVar 10) (eInt 1))) aNil))) (eBin gMul (eInt 2) (eCB gInt (aCons (eBin gEq (eVar 12) (eVar 10)) aNil)))) [12])) sNil)
theorem base_loop2 (y0 y1 y2 y3 y4 y5 y6 y7 y8 y11 : Option D) (φ : Fd) : forGo (tgN 10) lb_law_3 ((List.range 6).map fun (k : Nat) => D.int k) [y0, y1, y2, y3, y4, y5, y6, y7, y8, some (rws B2), none, y11, none] φ = .nx [y0, y1, y2, y3, y4, y5, y6, y7, y8, some (rws BR), some (.int 5), y11, none] φ := by kernel_rfl
end Pf

set_option Elab.async false
set_option linter.all false
set_option maxRecDepth 100000
set_option maxHeartbeats 1000000
namespace Pf
open PySem PySem.Spec PyProof.Rows L2

abbrev lb_law_1 : SS := (sSeq (sIf (bNot (bTru (eCall F__law_mirrored_right (aCons (eVar 1) (aCons (eVar 2) (aCons (eVar 3) aNil)))))) (sSeq (sRet (eBl false)) sNil) sNil) sNil)
noncomputable abbrev lb_law_2 : SS := (sSeq (sIf (bNot (bTru (eCall F__law_lead_right (aCons (eVar 2) (aCons (eVar 5) (aCons (eVar 8) aNil)))))) (sSeq (sRet (eBl false)) sNil) sNil) sNil)
abbrev eR2 : SX := eLst (aCons (eInt 2) (aCons (eInt 2) (aCons (eInt 0) (aCons (eInt 0) (aCons (eInt 0) (aCons (eInt 0) (aCons (eInt 0) (aCons (eInt 0) aNil))))))))
abbrev eN2 : SX := eLst (aCons (eUn gNeg (eInt 2)) (aCons (eUn gNeg (eInt 2)) (aCons (eInt 0) (aCons (eInt 0) (aCons (eInt 0) (aCons (eInt 0) (aCons (eInt 0) (aCons (eInt 0) aNil))))))))
theorem eR2_ok {ρ : En} {φ : Fd} : eR2 ρ φ = .ok (row r0) φ := by kernel_rfl
theorem eN2_ok {ρ : En} {φ : Fd} : eN2 ρ φ = .ok (row nr0) φ := by kernel_rfl
theorem one_rws {ρ : En} {φ : Fd} {A : SX} {x : List Int} (h : A ρ φ = .ok (row x) φ) : eLst (aCons A aNil) ρ φ = .ok (rws [x]) φ := lst_ok (one_ok h) (size_le (show 1 ≤ 1000000 by decide))
theorem two_rws {ρ : En} {φ : Fd} {A B : SX} {x y : List Int} (h : A ρ φ = .ok (row x) φ) (h2 : B ρ φ = .ok (row y) φ) : eLst (aCons A (aCons B aNil)) ρ φ = .ok (rws [x, y]) φ := lst_ok (two_ok h h2) (size_le (show 2 ≤ 1000000 by decide))
theorem nil_rws {ρ : En} {φ : Fd} : eLst aNil ρ φ = .ok (rws []) φ := lst_ok nil_ok (size_le (show 0 ≤ 1000000 by decide))
theorem ne_rws (x : List (List Int)) : gNe (rws x) (rws x) = some (.bl false) := ne_false emb_rws (by decide) x
theorem ne_i (n : Int) : gNe (.int n) (.int n) = some (.bl false) := (ne_int n n).trans (by rw [decide_eq_true rfl]; rfl)
noncomputable abbrev lawEnd : SS := (sSeq (sIf (bOr (bCmp gNe (eCall F_round_of_mirrors (aCons (eVar 9) aNil)) (eInt 30)) (bOr (bCmp gNe (eCall F_closed_by_mirrors (aCons (eLst aNil) aNil)) (eLst aNil)) (bOr (bCmp gNe (eCall F_round_of_mirrors (aCons (eLst aNil) aNil)) (eInt 1)) (bCmp gNe (eCall F_lead_root (aCons (eVar 5) (aCons (eVar 5) aNil))) (eLst aNil))))) (sSeq (sRet (eBl false)) sNil) sNil) (sSeq (sIf (bCmp gNe (eCall F_lead_root (aCons eR2 (aCons eN2 aNil))) (eLst (aCons eN2 aNil))) (sSeq (sRet (eBl false)) sNil) sNil) (sSeq (sIf (bOr (bCmp gNe (eCall F_closed_by_mirrors (aCons (eLst (aCons (eBin gIx (eVar 9) (eInt 1)) aNil)) aNil)) (eLst (aCons eN2 (aCons eR2 aNil)))) (bCmp gNe (eCall F_round_of_mirrors (aCons (eSl (eVar 9) (oSome (eInt 2)) (oSome (eInt 4))) aNil)) (eInt 3))) (sSeq (sRet (eBl false)) sNil) sNil) (sSeq (sRet (eAnd (eBin gEq (eCall F_mirrored (aCons (eBin gIx (eVar 9) (eInt 1)) (aCons (eLst (aCons (eInt 4) (aCons (eInt 0) (aCons (eInt 0) (aCons (eInt 0) (aCons (eInt 0) (aCons (eInt 0) (aCons (eInt 0) (aCons (eInt 0) aNil))))))))) aNil))) (eLst (aCons (eInt 0) (aCons (eUn gNeg (eInt 4)) (aCons (eInt 0) (aCons (eInt 0) (aCons (eInt 0) (aCons (eInt 0) (aCons (eInt 0) (aCons (eInt 0) aNil)))))))))) (eBin gEq (eCall F_mirrored_by (aCons (eLst aNil) (aCons (eBin gIx (eVar 9) (eInt 0)) aNil))) (eBin gIx (eVar 9) (eInt 0))))) sNil))))
theorem law_end {ρ : En} {r : List Int} (φ : Fd) (h9 : ρ[9]? = some (some (rws BR))) (h5 : ρ[5]? = some (some (row r))) (hr : r ∈ RT) : lawEnd ρ φ = .rt (.bl true) φ := by
  have s1 : ∀ x ∈ [r0], x ∈ RT := fun x hx => by rw [List.mem_singleton.mp hx]; exact r0_in
  have b0 : gIx (rws BR) (.int 0) = some (row [1, -1, -1, -1, -1, -1, -1, 1]) := gIx_rows (rows := BR) (k := 0) (by decide)
  have b1 : gIx (rws BR) (.int 1) = some (row r0) := gIx_rows (rows := BR) (k := 1) (by decide)
  have sl : eSl (eVar 9) (oSome (eInt 2)) (oSome (eInt 4)) ρ φ = .ok (rws X34) φ := by
    unfold eSl
    rw [v_ok h9]
    show ofO (gSl (rws BR) (some 2) (some 4)) φ = _
    kernel_rfl
  have c0 := f_closed nil_RT (by decide) φ
  rw [clo_nil] at c0
  have c1 := f_closed s1 (by decide) φ
  rw [clo_r0] at c1
  have d30 := f_round BR_RT φ
  rw [rnd30] at d30
  have d1 := f_round nil_RT φ
  rw [rnd1] at d1
  have d3 := f_round X34_RT φ
  rw [rnd3] at d3
  have l0 := f_lead φ hr hr
  rw [lead_self] at l0
  have l1 := f_lead φ r0_in nr0_in
  rw [lead_r0] at l1
  have s4 : Sm [4, 0, 0, 0, 0, 0, 0, 0] := ⟨by decide, by decide⟩
  have m1 := s_mir φ r0_in s4
  rw [show mir r0 [4, 0, 0, 0, 0, 0, 0, 0] = [0, -4, 0, 0, 0, 0, 0, 0] by decide] at m1
  have m2 := f_mby (gs := []) φ nil_RT (RT_sm (BR_RT [1, -1, -1, -1, -1, -1, -1, 1] (by decide)))
  have e4 : (eLst (aCons (eInt 4) (aCons (eInt 0) (aCons (eInt 0) (aCons (eInt 0) (aCons (eInt 0) (aCons (eInt 0) (aCons (eInt 0) (aCons (eInt 0) aNil))))))))) ρ φ = .ok (row [4, 0, 0, 0, 0, 0, 0, 0]) φ := by kernel_rfl
  have e5 : (eLst (aCons (eInt 0) (aCons (eUn gNeg (eInt 4)) (aCons (eInt 0) (aCons (eInt 0) (aCons (eInt 0) (aCons (eInt 0) (aCons (eInt 0) (aCons (eInt 0) aNil))))))))) ρ φ = .ok (row [0, -4, 0, 0, 0, 0, 0, 0]) φ := by kernel_rfl
  have i0 : eBin gIx (eVar 9) (eInt 0) ρ φ = .ok (row [1, -1, -1, -1, -1, -1, -1, 1]) φ := bin_ok (v_ok h9) rfl b0
  have i1 : eBin gIx (eVar 9) (eInt 1) ρ φ = .ok (row r0) φ := bin_ok (v_ok h9) rfl b1
  have eqr : ∀ x, gEq (row x) (row x) = some (.bl true) := fun x => (eq_rows x x).trans (by rw [decide_eq_true rfl])
  refine seq_nx (if_skip (or_no (cmp_ok (call_ok (one_ok (v_ok h9)) d30) rfl (ne_i 30)) (or_no (cmp_ok (call_ok (one_ok nil_rws) c0) nil_rws (ne_rws [])) (or_no (cmp_ok (call_ok (one_ok nil_rws) d1) rfl (ne_i 1)) (cmp_ok (call_ok (two_ok (v_ok h5) (v_ok h5)) l0) nil_rws (ne_rws [])))))) ?_
  refine seq_nx (if_skip (cmp_ok (call_ok (two_ok eR2_ok eN2_ok) l1) (one_rws eN2_ok) (ne_rws [nr0]))) ?_
  refine seq_nx (if_skip (or_no (cmp_ok (call_ok (one_ok (one_rws i1)) c1) (two_rws eN2_ok eR2_ok) (ne_rws [nr0, r0])) (cmp_ok (call_ok (one_ok sl) d3) rfl (ne_i 3)))) ?_
  exact seq_rt (ret_ok (eand_yes (bin_ok (call_ok (two_ok i1 e4) m1) e5 (eqr _)) (bin_ok (call_ok (two_ok nil_rws i0) m2) i0 (eqr _))))
end Pf

set_option Elab.async false
set_option linter.all false
set_option maxRecDepth 100000
set_option maxHeartbeats 1000000
namespace Pf
open PySem PySem.Spec PyProof.Rows L2

theorem goal_ix (k : Nat) (hk : k < 5) : ∃ g ∈ [(2 : Int), 1, 0, -1, -2], gIx (.lst [.int 2, .int 1, .int 0, .int (-1), .int (-2)]) (.int (k : Int)) = some (.int g) := by
  match k, hk with
  | 0, _ => exact ⟨2, by decide, rfl⟩
  | 1, _ => exact ⟨1, by decide, rfl⟩
  | 2, _ => exact ⟨0, by decide, rfl⟩
  | 3, _ => exact ⟨-1, by decide, rfl⟩
  | 4, _ => exact ⟨-2, by decide, rfl⟩
theorem law_true : ∀ φ : Fd, φ.Ok → ∃ φ', B_law ((List.replicate 13 none).set 1 (some .feed)) φ = .rt (.bl true) φ' := by
  intro φ hφ
  obtain ⟨rows, φ1, er, hR, hl, t1⟩ := f_some φ hφ.t0
  obtain ⟨ρ1, φ2, h2, z4, rfl, t2⟩ := for_st (T := tgN 4) (e := fun (k : Nat) => D.int k) (B := lb_law_1) (fun pre ρ φ => ∃ z4, ρ = [none, some .feed, some (rws RT), some (rws rows), z4, none, none, none, none, none, none, none, none] ∧ 0 ≤ φ.told) (List.range 3) [] (ρ := [none, some .feed, some (rws RT), some (rws rows), none, none, none, none, none, none, none, none, none]) (φ := φ1) ⟨_, rfl, t1⟩ (by
    rintro pre k post ρ φ e ⟨z4, rfl, ht⟩
    obtain ⟨φ', hm, t'⟩ := f_mright hR (by omega) φ ht
    exact ⟨_, rfl, _, φ', .inl (seq_one (if_skip (not_ok (trub_ok (b := true) (call_ok (cons_ok (v_ok rfl) (two_ok (v_ok rfl) (v_ok rfl))) hm))))), _, rfl, t'⟩)
  obtain ⟨φ3, h3, t3⟩ := f_closr hR hl φ2 t2
  obtain ⟨k, φ4, hk, t4, d4⟩ := drw φ3 t3 240 (by decide) (by decide)
  have hk' : k < RT.length := by rw [RT_len]; exact hk
  obtain ⟨r, hrr, e4⟩ : ∃ r, r ∈ RT ∧ gIx (rws RT) (.int (k : Int)) = some (row r) := ⟨gw RT k, gw_mem hk', gIx_rows hk'⟩
  obtain ⟨q, φ5, hq, t5, d5⟩ := drw φ4 t4 5 (by decide) (by decide)
  obtain ⟨g, hg, e5⟩ := goal_ix q hq
  have e6 : eLst (aCons (eInt 2) (aCons (eInt 1) (aCons (eInt 0) (aCons (eUn gNeg (eInt 1)) (aCons (eUn gNeg (eInt 2)) aNil))))) [none, some .feed, some (rws RT), some (rws rows), z4, some (row r), none, none, none, none, none, none, none] φ4 = .ok (.lst [.int 2, .int 1, .int 0, .int (-1), .int (-2)]) φ4 := by kernel_rfl
  obtain ⟨F, hF⟩ : ∃ F, F = RT.filter fun x => decide (dot r x = g) := ⟨_, rfl⟩
  have mF : ∀ x ∈ F, x ∈ RT := fun x hx => by rw [hF] at hx; exact (List.mem_filter.mp hx).1
  have lF : F.length ≤ 240 := by rw [hF, ← RT_len]; exact List.length_filter_le _ _
  have pF : 0 < F.length := by
    obtain ⟨x, hx, ex⟩ := pall hrr g hg
    exact List.length_pos_of_mem (a := x) (by rw [hF]; exact List.mem_filter.mpr ⟨hx, decide_eq_true ex⟩)
  have e7 : eLc (iSeq (eVar 2)) (tgN 11) (bCmp gEq (eCall F__law_product (aCons (eVar 5) (aCons (eVar 11) aNil))) (eVar 6)) (eVar 11) [11] [none, some .feed, some (rws RT), some (rws rows), z4, some (row r), some (.int g), none, none, none, none, none, none] φ5 = .ok (rws F) φ5 := by
    rw [hF]
    exact lc_ok RT row (fun x => decide (dot r x = g)) row (seq_l (v_ok rfl)) (size_le (by rw [RT_len]; decide)) fun x hx => ⟨_, rfl, cmp_ok (call_ok (two_ok (v_ok rfl) (v_ok rfl)) (f_lproduct φ5 (RT_rw hrr) (RT_rw hx))) (v_ok rfl) (eq_int _ _), fun _ => v_ok rfl⟩
  clear hF
  obtain ⟨a, φ6, ha, t6, d6⟩ := drw φ5 t5 F.length pF (by omega)
  obtain ⟨b, φ7, hb, t7, d7⟩ := drw φ6 t6 240 (by decide) (by decide)
  have hb' : b < RT.length := by rw [RT_len]; exact hb
  obtain ⟨o1, m1, x1⟩ : ∃ o, o ∈ RT ∧ gIx (rws F) (.int (a : Int)) = some (row o) := ⟨gw F a, mF _ (gw_mem ha), gIx_rows ha⟩
  obtain ⟨o2, m2, x2⟩ : ∃ o, o ∈ RT ∧ gIx (rws RT) (.int (b : Int)) = some (row o) := ⟨gw RT b, gw_mem hb', gIx_rows hb'⟩
  have e8 : iSeq (eLst (aCons (eBin gIx (eVar 7) (eCall F__law_draw (aCons (eVar 1) (aCons (eCB gLen (aCons (eVar 7) aNil)) aNil)))) (aCons (eBin gIx (eVar 2) (eCall F__law_draw (aCons (eVar 1) (aCons (eInt 240) aNil)))) aNil))) [none, some .feed, some (rws RT), some (rws rows), z4, some (row r), some (.int g), some (rws F), none, none, none, none, none] φ5 = .ok ([o1, o2].map row) φ7 :=
    seq_l (lst_ok (two_ok (bin_ok (v_ok rfl) (d6 1 _ _ rfl (lens_ok (v_ok rfl))) x1) (bin_ok (v_ok rfl) (d7 1 _ _ rfl rfl) x2)) (size_le (show 2 ≤ 1000000 by decide)))
  obtain ⟨ρ2, h8, z8, rfl⟩ := for_inv (T := tgN 8) (φ := φ7) (e := row) (B := lb_law_2) (fun pre ρ => ∃ z8, ρ = [none, some .feed, some (rws RT), some (rws rows), z4, some (row r), some (.int g), some (rws F), z8, none, none, none, none]) [o1, o2] [] (ρ := [none, some .feed, some (rws RT), some (rws rows), z4, some (row r), some (.int g), some (rws F), none, none, none, none, none]) ⟨_, rfl⟩ (by
    rintro pre o post ρ e ⟨z8, rfl⟩
    have ho : o ∈ RT := by
      have : o ∈ [] ++ [o1, o2] := by rw [e]; simp
      rcases List.mem_cons.mp this with rfl | h
      · exact m1
      · rw [List.mem_singleton.mp h]; exact m2
    exact ⟨_, rfl, _, .inl (seq_one (if_skip (not_ok (trub_ok (b := true) (call_ok (cons_ok (v_ok rfl) (two_ok (v_ok rfl) (v_ok rfl))) (f_leadr φ7 hrr ho)))))), _, rfl⟩)
  have e9 : (eLst (aCons (eLst (aCons (eInt 1) (aCons (eUn gNeg (eInt 1)) (aCons (eUn gNeg (eInt 1)) (aCons (eUn gNeg (eInt 1)) (aCons (eUn gNeg (eInt 1)) (aCons (eUn gNeg (eInt 1)) (aCons (eUn gNeg (eInt 1)) (aCons (eInt 1) aNil))))))))) (aCons (eLst (aCons (eInt 2) (aCons (eInt 2) (aCons (eInt 0) (aCons (eInt 0) (aCons (eInt 0) (aCons (eInt 0) (aCons (eInt 0) (aCons (eInt 0) aNil))))))))) aNil))) [none, some .feed, some (rws RT), some (rws rows), z4, some (row r), some (.int g), some (rws F), z8, none, none, none, none] φ7 = .ok (rws B2) φ7 := by kernel_rfl
  refine ⟨φ7, seq_nx (set_ok (call0_ok (f_lroots φ))) (seq_nx (set_ok (call_ok (two_ok (v_ok rfl) (v_ok rfl)) er)) (seq_nx (for_ok (rg1_ok (n := 3) rfl (by decide)) h2) (seq_nx (if_skip (not_ok (trub_ok (b := true) (call_ok (cons_ok (v_ok rfl) (two_ok (v_ok rfl) (v_ok rfl))) h3)))) (seq_nx (set_ok (bin_ok (v_ok rfl) (d4 1 _ _ rfl rfl) e4)) (seq_nx (set_ok (bin_ok e6 (d5 1 _ _ rfl rfl) e5)) (seq_nx (set_ok e7) (seq_nx (for_ok e8 h8) (seq_nx (set_ok e9) (seq_nx (for_ok (rg1_ok (n := 6) rfl (by decide)) (base_loop2 _ _ _ _ _ _ _ _ _ _ φ7)) ?_)))))))))⟩
  exact law_end φ7 rfl rfl hrr
end Pf

set_option Elab.async false
set_option linter.all false
set_option maxRecDepth 100000
open PySem PySem.W PyProof.Rows
set_option maxHeartbeats 0 in
theorem PySem.Challenge.cw_eightroots_k10_whole_mirrors_holds : PySem.Challenge.rw_eightroots_k10_whole_mirrors.Holds := by
  w_on; o_law; k_head; (case hw => w_witness2)
  k_fill
  refine L2.walk_of (l := PySem.Challenge.rw_eightroots_k10_whole_mirrors) (n := 63) (k := 6) (x := "script") (CX := fun w => L2N.CX PySem.Challenge.rw_eightroots_k10_whole_mirrors.prog w) (sp := fun w => Pf.spLaw _) rfl (by decide) rfl ⟨rfl, by decide, by decide⟩ (fun w h Y => PySem.W.kIn_of Y) ?F (fun _ _ a ns hl _ hS => ⟨a, ns, rfl, hS, hl, fun _ => rfl⟩) (fun _ _ _ _ _ ⟨_, _, _, _, _, _, _, _, _, _, _, _, h⟩ => h)
  case F =>
    intro w mg fa h KX G hmg
    refine' Pf.all_mk KX G hmg ?a0 ?l0 ?c0 ?k0 ?a1 ?l1 ?c1 ?k1 ?a2 ?l2 ?c2 ?k2 ?a3 ?l3 ?c3 ?k3 ?a4 ?l4 ?c4 ?k4 ?a5 ?l5 ?c5 ?k5 ?a6 ?l6 ?c6 ?k6 ?a7 ?l7 ?c7 ?k7 ?a8 ?l8 ?c8 ?k8 ?a9 ?l9 ?c9 ?k9 ?a10 ?l10 ?c10 ?k10 ?a11 ?l11 ?c11 ?k11 ?a12 ?l12 ?c12 ?k12 ?a13 ?l13 ?c13 ?k13 ?a14 ?l14 ?c14 ?k14 ?a15 ?l15 ?c15 ?k15 ?a16 ?l16 ?c16 ?k16 ?a17 ?l17 ?c17 ?k17 ?a18 ?l18 ?c18 ?k18 ?a19 ?l19 ?c19 ?k19 ?a20 ?l20 ?c20 ?k20 ?a21 ?l21 ?c21 ?k21 ?a22 ?l22 ?c22 ?k22 ?a23 ?l23 ?c23 ?k23 ?a24 ?l24 ?c24 ?k24 ?a25 ?l25 ?c25 ?k25 ?a26 ?l26 ?c26 ?k26 ?a27 ?l27 ?c27 ?k27 ?a28 ?l28 ?c28 ?k28 ?a29 ?l29 ?c29 ?k29 ?a30 ?l30 ?c30 ?k30 ?z_sum ?z_zip ?z_range ?z_sorted ?z_list ?z_tuple ?z_len ?z_abs ?z_int ?z_isinstance ?z_bool ?z_all ?z_max ?z_min ?y_SIZE Pf.law_true
    (case a0 => k_is); (case l0 => k_is); (case c0 => k_is); (case k0 => k_is); (case a1 => k_is); (case l1 => k_is); (case c1 => k_is); (case k1 => k_is); (case a2 => k_is); (case l2 => k_is); (case c2 => k_is); (case k2 => k_is); (case a3 => k_is); (case l3 => k_is); (case c3 => k_is); (case k3 => k_is); (case a4 => k_is); (case l4 => k_is); (case c4 => k_is); (case k4 => k_is); (case a5 => k_is); (case l5 => k_is); (case c5 => k_is); (case k5 => k_is); (case a6 => k_is); (case l6 => k_is); (case c6 => k_is); (case k6 => k_is); (case a7 => k_is); (case l7 => k_is); (case c7 => k_is); (case k7 => k_is); (case a8 => k_is); (case l8 => k_is); (case c8 => k_is); (case k8 => k_is); (case a9 => k_is); (case l9 => k_is); (case c9 => k_is); (case k9 => k_is); (case a10 => k_is); (case l10 => k_is); (case c10 => k_is); (case k10 => k_is); (case a11 => k_is); (case l11 => k_is); (case c11 => k_is); (case k11 => k_is); (case a12 => k_is); (case l12 => k_is); (case c12 => k_is); (case k12 => k_is); (case a13 => k_is); (case l13 => k_is); (case c13 => k_is); (case k13 => k_is); (case a14 => k_is); (case l14 => k_is); (case c14 => k_is); (case k14 => k_is); (case a15 => k_is); (case l15 => k_is); (case c15 => k_is); (case k15 => k_is); (case a16 => k_is); (case l16 => k_is); (case c16 => k_is); (case k16 => k_is); (case a17 => k_is); (case l17 => k_is); (case c17 => k_is); (case k17 => k_is); (case a18 => k_is); (case l18 => k_is); (case c18 => k_is); (case k18 => k_is); (case a19 => k_is); (case l19 => k_is); (case c19 => k_is); (case k19 => k_is); (case a20 => k_is); (case l20 => k_is); (case c20 => k_is); (case k20 => k_is); (case a21 => k_is); (case l21 => k_is); (case c21 => k_is); (case k21 => k_is); (case a22 => k_is); (case l22 => k_is); (case c22 => k_is); (case k22 => k_is); (case a23 => k_is); (case l23 => k_is); (case c23 => k_is); (case k23 => k_is); (case a24 => k_is); (case l24 => k_is); (case c24 => k_is); (case k24 => k_is); (case a25 => k_is); (case l25 => k_is); (case c25 => k_is); (case k25 => k_is); (case a26 => k_is); (case l26 => k_is); (case c26 => k_is); (case k26 => k_is); (case a27 => k_is); (case l27 => k_is); (case c27 => k_is); (case k27 => k_is); (case a28 => k_is); (case l28 => k_is); (case c28 => k_is); (case k28 => k_is); (case a29 => k_is); (case l29 => k_is); (case c29 => k_is); (case k29 => k_is); (case a30 => k_is); (case l30 => k_is); (case c30 => k_is); (case k30 => k_is); (case z_sum => k_is); (case z_zip => k_is); (case z_range => k_is); (case z_sorted => k_is); (case z_list => k_is); (case z_tuple => k_is); (case z_len => k_is); (case z_abs => k_is); (case z_int => k_is); (case z_isinstance => k_is); (case z_bool => k_is); (case z_all => k_is); (case z_max => k_is); (case z_min => k_is); (case y_SIZE => k_is)
