import PyProof.Rows.All
import Wide.All
import OpenK.AllK
import Wide.FinOn
import PySem.Challenge.RW_braemantle_k48_limits_and_distances
import HandS.ForMost
import HandS.ForExc
import HandS.Wide
import HandS.Deep
import HandS.IsInst
import HandS.TupAny
import HandS.Flt
import HandS.TupLen
import HandS.Conv
import HandS.Style
import HandS.WordsExc
import HandS.CallSlots
import HandS.Defaults
import HandS.MakeKwOnly
import HandS.NoneIn
import PyProof.CollectIter
import PyProof.SumWalkG
import PyProof.ListOps
import HandS.HeadHook2
import HandS.HeadEnd
import HandS.Head0
import HandS.Head1
import HandS.Head2
set_option Elab.async false
set_option linter.all false
set_option maxRecDepth 100000
set_option maxHeartbeats 0
/-! Y1: tree values over the hand layer: T, what represents them, worlds, steps of worlds. -/
namespace Y
open PySem L2

/-- a tree value: lists, dicts, instances in it never change any more; what may change is behind ref -/
inductive T where
  | non | bl (b : Bool) | int (i : Int) | str (s : Str)
  | tup (xs : List T) | lst (xs : List T)
  | dk (ks : List Key) (vs : List T) | dt (ks : List (List Key)) (vs : List T)
  | ins (c : Nat) (ks : List Str) (vs : List T)
  | ref (n : Nat)
  | scr (ns : List Int)
  deriving Inhabited

/-- a world: what may be written (M), where the objects of our heap stand (ρ), the abstract heap -/
structure Wd where
  M : Addr → Prop
  ρ : List Addr
  H : Hp

/-- the written part, the classes by number -/
structure Tb where
  K : PySem.W.Frag
  C : Nat → Addr

mutual
/-- v stands for the tree t -/
def Rep (b : Tb) (w : Wd) : T → V → Prop
  | .non, v => v = .non
  | .bl k, v => v = .bl k
  | .int i, v => v = .int i
  | .str s, v => v = .str s
  | .tup xs, v => ∃ a vs, v = .ref a ∧ SqT b.K w.H a vs ∧ (xs ≠ [] → w.H a = some (.tup vs)) ∧ RepL b w xs vs
  | .lst xs, v => ∃ a vs, v = .ref a ∧ w.H a = some (.lst vs) ∧ ¬ w.M a ∧ RepL b w xs vs
  | .dk ks ts, v => ∃ a o kvs, v = .ref a ∧ w.H a = some (.frz o (.dK kvs)) ∧ kvs.map (·.1) = ks ∧ RepL b w ts (kvs.map (·.2))
  | .dt ks ts, v => ∃ a o kvs, v = .ref a ∧ w.H a = some (.frz o (.dT kvs)) ∧ kvs.map (·.1) = ks ∧ RepL b w ts (kvs.map (·.2))
  | .ins c ks ts, v => ∃ a dx fs, v = .ref a ∧ w.H a = some (.ins (b.C c) dx fs) ∧ ¬ w.M a ∧ fs.map (·.1) = ks ∧ RepL b w ts (fs.map (·.2))
  | .ref n, v => ∃ a, v = .ref a ∧ w.ρ[n]? = some a
  | .scr ns, v => ∃ a, v = .ref a ∧ ((∃ o, w.H a = some (.frz o (.lst (ns.map V.int)))) ∨ ∀ H, SqL b.K H a (ns.map V.int))
def RepL (b : Tb) (w : Wd) : List T → List V → Prop
  | [], vs => vs = []
  | x :: xs, vs => ∃ v r, vs = v :: r ∧ Rep b w x v ∧ RepL b w xs r
end

/-- v stands for the tree t, or for the content t of an object of a frame's own (to be read at once) -/
def RepB (b : Tb) (w : Wd) (t : T) (v : V) : Prop :=
  match t with
  | .lst xs => ∃ a vs, v = .ref a ∧ w.H a = some (.lst vs) ∧ a ∉ w.ρ ∧ RepL b w xs vs
  | .dk ks ts => ∃ a kvs, v = .ref a ∧ Rd w.H a (.dK kvs) ∧ a ∉ w.ρ ∧ kvs.map (·.1) = ks ∧ RepL b w ts (kvs.map (·.2))
  | .dt ks ts => ∃ a kvs, v = .ref a ∧ Rd w.H a (.dT kvs) ∧ a ∉ w.ρ ∧ kvs.map (·.1) = ks ∧ RepL b w ts (kvs.map (·.2))
  | .ins c ks ts => ∃ a dx fs, v = .ref a ∧ w.H a = some (.ins (b.C c) dx fs) ∧ a ∉ w.ρ ∧ fs.map (·.1) = ks ∧ RepL b w ts (fs.map (·.2))
  | t => Rep b w t v

/-- the content of an object that may be written -/
def RepC (b : Tb) (w : Wd) (t : T) (o : HO) : Prop :=
  match t with
  | .lst xs => ∃ vs, o = .lst vs ∧ RepL b w xs vs
  | .dk ks ts => ∃ kvs, o = .dK kvs ∧ kvs.map (·.1) = ks ∧ RepL b w ts (kvs.map (·.2))
  | .dt ks ts => ∃ kvs, o = .dT kvs ∧ kvs.map (·.1) = ks ∧ RepL b w ts (kvs.map (·.2))
  | .ins c ks ts => ∃ dx fs, o = .ins (b.C c) dx fs ∧ fs.map (·.1) = ks ∧ RepL b w ts (fs.map (·.2))
  | _ => False

/-- a world grows: but at tc, what stood stands -/
structure Ev (tc : Addr → Prop) (w w' : Wd) : Prop where
  keep : ∀ a o, w.H a = some o → ¬ tc a → w'.H a = some o
  newM : ∀ a, w'.M a → w.H a ≠ none → w.M a
  oldM : ∀ a, w.M a → w'.M a
  pre : w.ρ <+: w'.ρ
  newR : ∀ a, a ∈ w'.ρ → a ∈ w.ρ ∨ w.H a = none
  live : ∀ a, w.H a ≠ none → w'.H a ≠ none
/-- .. by an expression: only the heap's objects may be written -/
abbrev Es (w w' : Wd) : Prop := Ev (fun a => a ∈ w.ρ) w w'

theorem Ev.refl {tc : Addr → Prop} {w : Wd} : Ev tc w w := ⟨fun _ _ h _ => h, fun _ h _ => h, fun _ h => h, List.prefix_refl _, fun _ h => .inl h, fun _ h => h⟩
theorem Ev.mono {tc tc' : Addr → Prop} {w w' : Wd} (e : Ev tc w w') (h : ∀ a, tc a → tc' a) : Ev tc' w w' :=
  ⟨fun a o q n => e.keep a o q fun z => n (h a z), e.newM, e.oldM, e.pre, e.newR, e.live⟩
theorem Ev.trans {tc tc' : Addr → Prop} {w w1 w2 : Wd} (e : Ev tc w w1) (f : Ev tc' w1 w2) (h : ∀ a, tc' a → w.H a ≠ none → tc a) : Ev tc w w2 where
  keep := fun a o q n => f.keep a o (e.keep a o q n) fun z => n (h a z (by rw [q]; simp))
  newM := fun a m l => e.newM a (f.newM a m (e.live a l)) l
  oldM := fun a m => f.oldM a (e.oldM a m)
  pre := e.pre.trans f.pre
  newR := fun a m => by
    rcases f.newR a m with z | z
    · exact e.newR a z
    · right
      apply Classical.byContradiction
      intro q
      exact e.live a q z
  live := fun a l => f.live a (e.live a l)
theorem Es.trans {w w1 w2 : Wd} (e : Es w w1) (f : Es w1 w2) : Es w w2 := Ev.trans e f fun a z l => by
  rcases e.newR a z with q | q
  · exact q
  · exact absurd q l

theorem pre_get {l l' : List Addr} {n : Nat} {a : Addr} (p : l <+: l') (h : l[n]? = some a) : l'[n]? = some a := by
  obtain ⟨r, rfl⟩ := p
  have hn : n < l.length := by
    have := List.getElem?_eq_some_iff.mp h
    exact this.1
  rw [List.getElem?_append_left hn]
  exact h

/-- the ways in which a tree's objects are kept -/
structure Kp (w w' : Wd) : Prop where
  keep : ∀ a o, w.H a = some o → ¬ w.M a → w'.H a = some o
  newM : ∀ a, w'.M a → w.H a ≠ none → w.M a
  pre : w.ρ <+: w'.ρ
  tup : ∀ a vs, w.H a = some (.tup vs) → w'.H a = some (.tup vs)
  frz : ∀ a o u, w.H a = some (.frz o u) → w'.H a = some (.frz o u)
  live : ∀ a, w.H a ≠ none → w'.H a ≠ none
theorem Kp.refl {w : Wd} : Kp w w := ⟨fun _ _ h _ => h, fun _ h _ => h, List.prefix_refl _, fun _ _ h => h, fun _ _ _ h => h, fun _ h => h⟩
theorem Kp.trans {w w1 w2 : Wd} (e : Kp w w1) (f : Kp w1 w2) : Kp w w2 where
  keep := fun a o h n => f.keep a o (e.keep a o h n) fun z => n (e.newM a z (by rw [h]; simp))
  newM := fun a m l => e.newM a (f.newM a m (e.live a l)) l
  pre := e.pre.trans f.pre
  tup := fun a vs h => f.tup a vs (e.tup a vs h)
  frz := fun a o u h => f.frz a o u (e.frz a o u h)
  live := fun a l => f.live a (e.live a l)

theorem Kp.sqT {b : Tb} {w w' : Wd} (k : Kp w w') {a : Addr} {vs : List V} (h : SqT b.K w.H a vs) : SqT b.K w'.H a vs := by
  rcases h with (h | ⟨o, h⟩) | h
  · exact .inl (.inl (k.tup _ _ h))
  · exact .inl (.inr ⟨o, k.frz _ _ _ h⟩)
  · exact .inr h

mutual
theorem Rep.kp {b : Tb} {w w' : Wd} (k : Kp w w') : ∀ {t : T} {v : V}, Rep b w t v → Rep b w' t v
  | .non, _, h => h
  | .bl _, _, h => h
  | .int _, _, h => h
  | .str _, _, h => h
  | .tup xs, v, h => by
    unfold Rep at h ⊢
    obtain ⟨a, vs, e, h1, h3, h2⟩ := h
    exact ⟨a, vs, e, k.sqT h1, fun z => k.tup _ _ (h3 z), RepL.kp k h2⟩
  | .lst xs, v, h => by
    unfold Rep at h ⊢
    obtain ⟨a, vs, e, h1, m, h2⟩ := h
    exact ⟨a, vs, e, k.keep _ _ h1 m, fun z => m (k.newM a z (by rw [h1]; simp)), RepL.kp k h2⟩
  | .dk ks ts, v, h => by
    unfold Rep at h ⊢
    obtain ⟨a, o, kvs, e, h1, e2, h2⟩ := h
    exact ⟨a, o, kvs, e, k.frz _ _ _ h1, e2, RepL.kp k h2⟩
  | .dt ks ts, v, h => by
    unfold Rep at h ⊢
    obtain ⟨a, o, kvs, e, h1, e2, h2⟩ := h
    exact ⟨a, o, kvs, e, k.frz _ _ _ h1, e2, RepL.kp k h2⟩
  | .ins c ks ts, v, h => by
    unfold Rep at h ⊢
    obtain ⟨a, dx, fs, e, h1, m, e2, h2⟩ := h
    exact ⟨a, dx, fs, e, k.keep _ _ h1 m, fun z => m (k.newM a z (by rw [h1]; simp)), e2, RepL.kp k h2⟩
  | .ref n, v, h => by
    unfold Rep at h ⊢
    obtain ⟨a, e, h1⟩ := h
    exact ⟨a, e, pre_get k.pre h1⟩
  | .scr ns, v, h => by
    unfold Rep at h ⊢
    obtain ⟨a, e, h1⟩ := h
    refine ⟨a, e, ?_⟩
    rcases h1 with ⟨o, h1⟩ | h1
    · exact .inl ⟨o, k.frz _ _ _ h1⟩
    · exact .inr h1
theorem RepL.kp {b : Tb} {w w' : Wd} (k : Kp w w') : ∀ {xs : List T} {vs : List V}, RepL b w xs vs → RepL b w' xs vs
  | [], _, h => by unfold RepL at h ⊢; exact h
  | x :: xs, _, h => by
    unfold RepL at h ⊢
    obtain ⟨v, r, e, h1, h2⟩ := h
    exact ⟨v, r, e, Rep.kp k h1, RepL.kp k h2⟩
end
theorem RepC.kp {b : Tb} {w w' : Wd} (k : Kp w w') {t : T} {o : HO} (h : RepC b w t o) : RepC b w' t o := by
  cases t <;> unfold RepC at h ⊢ <;> first | exact h.elim | skip
  · obtain ⟨vs, e, r⟩ := h; exact ⟨vs, e, r.kp k⟩
  · obtain ⟨vs, e, e2, r⟩ := h; exact ⟨vs, e, e2, r.kp k⟩
  · obtain ⟨vs, e, e2, r⟩ := h; exact ⟨vs, e, e2, r.kp k⟩
  · obtain ⟨dx, vs, e, e2, r⟩ := h; exact ⟨dx, vs, e, e2, r.kp k⟩

theorem RepC.mut {b : Tb} {w : Wd} {t : T} {o : HO} (h : RepC b w t o) : Mut (some o) := by
  cases t <;> unfold RepC at h <;> first | exact h.elim | skip
  · obtain ⟨vs, rfl, r⟩ := h; trivial
  · obtain ⟨vs, rfl, e2, r⟩ := h; trivial
  · obtain ⟨vs, rfl, e2, r⟩ := h; trivial
  · obtain ⟨dx, vs, rfl, e2, r⟩ := h; trivial

/-! ### the heap, the slots -/
abbrev Hs := List T

/-- our heap is held; what is written stands, and is of a kind that may be written -/
structure HR (b : Tb) (w : Wd) (h : Hs) : Prop where
  len : w.ρ.length = h.length
  nd : w.ρ.Nodup
  ob : ∀ (n : Nat) t, h[n]? = some t → ∃ a o, w.ρ[n]? = some a ∧ w.H a = some o ∧ RepC b w t o
  rm : ∀ a, a ∈ w.ρ → w.M a
  mm : ∀ a, w.M a → Mut (w.H a)

theorem mut_ne {o : Option HO} (h : Mut o) : o ≠ none := by rintro rfl; exact h
/-- a step by which only tc is written, all tc of M, gives what trees ask -/
theorem Ev.kp {tc : Addr → Prop} {w w' : Wd} (e : Ev tc w w') (m : ∀ a, tc a → w.M a) (mm : ∀ a, w.M a → Mut (w.H a)) : Kp w w' where
  keep := fun a o h n => e.keep a o h fun z => n (m a z)
  newM := e.newM
  pre := e.pre
  tup := fun a vs h => e.keep a _ h fun z => by
    have q := mm a (m a z)
    rw [h] at q
    exact q
  frz := fun a o u h => e.keep a _ h fun z => by
    have q := mm a (m a z)
    rw [h] at q
    exact q
  live := e.live
theorem HR.kp {b : Tb} {w w' : Wd} {h : Hs} (r : HR b w h) (e : Es w w') : Kp w w' := Ev.kp e r.rm r.mm

theorem Rep.b {b : Tb} {w : Wd} {h : Hs} (hr : HR b w h) {t : T} {v : V} (r : Rep b w t v) : RepB b w t v := by
  cases t with
  | lst xs =>
    unfold Rep at r
    obtain ⟨a, vs, e, h1, m, h2⟩ := r
    exact ⟨a, vs, e, h1, fun z => m (hr.rm a z), h2⟩
  | dk ks ts =>
    unfold Rep at r
    obtain ⟨a, o, kvs, e, h1, h2, h3⟩ := r
    refine ⟨a, kvs, e, .inr ⟨o, h1⟩, fun z => ?_, h2, h3⟩
    have q := hr.mm a (hr.rm a z)
    rw [h1] at q
    exact q
  | dt ks ts =>
    unfold Rep at r
    obtain ⟨a, o, kvs, e, h1, h2, h3⟩ := r
    refine ⟨a, kvs, e, .inr ⟨o, h1⟩, fun z => ?_, h2, h3⟩
    have q := hr.mm a (hr.rm a z)
    rw [h1] at q
    exact q
  | ins c ks ts =>
    unfold Rep at r
    obtain ⟨a, dx, fs, e, h1, m, h2, h3⟩ := r
    exact ⟨a, dx, fs, e, h1, fun z => m (hr.rm a z), h2, h3⟩
  | _ => exact r
theorem RepB.es {b : Tb} {w w' : Wd} (e : Es w w') (k : Kp w w') {t : T} {v : V} (r : RepB b w t v) : RepB b w' t v := by
  have out : ∀ {a : Addr} {o : HO}, w.H a = some o → a ∉ w.ρ → a ∉ w'.ρ := fun {a o} h n z => by
    rcases e.newR a z with z | z
    · exact n z
    · rw [h] at z; cases z
  cases t with
  | lst xs =>
    obtain ⟨a, vs, q, h1, n, h2⟩ := r
    exact ⟨a, vs, q, e.keep _ _ h1 n, out h1 n, h2.kp k⟩
  | dk ks ts =>
    obtain ⟨a, kvs, q, h1, n, h2, h3⟩ := r
    rcases h1 with h1 | ⟨o, h1⟩
    · exact ⟨a, kvs, q, .inl (e.keep _ _ h1 n), out h1 n, h2, h3.kp k⟩
    · exact ⟨a, kvs, q, .inr ⟨o, e.keep _ _ h1 n⟩, out h1 n, h2, h3.kp k⟩
  | dt ks ts =>
    obtain ⟨a, kvs, q, h1, n, h2, h3⟩ := r
    rcases h1 with h1 | ⟨o, h1⟩
    · exact ⟨a, kvs, q, .inl (e.keep _ _ h1 n), out h1 n, h2, h3.kp k⟩
    · exact ⟨a, kvs, q, .inr ⟨o, e.keep _ _ h1 n⟩, out h1 n, h2, h3.kp k⟩
  | ins c ks ts =>
    obtain ⟨a, dx, fs, q, h1, n, h2, h3⟩ := r
    exact ⟨a, dx, fs, q, e.keep _ _ h1 n, out h1 n, h2, h3.kp k⟩
  | non => exact Rep.kp k (show Rep b w .non v from r)
  | bl c => exact Rep.kp k (show Rep b w (.bl c) v from r)
  | int i => exact Rep.kp k (show Rep b w (.int i) v from r)
  | str s => exact Rep.kp k (show Rep b w (.str s) v from r)
  | tup xs => exact Rep.kp k (show Rep b w (.tup xs) v from r)
  | ref n => exact Rep.kp k (show Rep b w (.ref n) v from r)
  | scr ns => exact Rep.kp k (show Rep b w (.scr ns) v from r)

/-- a slot: nothing, a tree, an object of the frame's own that may be written, one of the caller's that is lent -/
inductive Sl where
  | no | val (t : T) | own (t : T) | io (t : T)
  deriving Inhabited

/-- ga: the caller's arguments (where a lent one stands) -/
def SlR (b : Tb) (w : Wd) (ga : List V) (i : Nat) (v : Option V) : Sl → Prop
  | .no => True
  | .val t => ∃ x, v = some x ∧ Rep b w t x
  | .own t => ∃ a o, v = some (.ref a) ∧ w.H a = some o ∧ RepC b w t o ∧ w.M a ∧ a ∉ w.ρ
  | .io t => ∃ a o, v = some (.ref a) ∧ w.H a = some o ∧ RepC b w t o ∧ w.M a ∧ a ∉ w.ρ ∧ ga[i]? = some (.ref a)
def Sl.mine : Sl → Bool
  | .own _ => true
  | .io _ => true
  | _ => false

abbrev En := List Sl
structure SR (b : Tb) (w : Wd) (ga : List V) (σ : St) (e : En) : Prop where
  len : σ.length = e.length
  at_ : ∀ (i : Nat) s, e[i]? = some s → ∃ v, σ[i]? = some v ∧ SlR b w ga i v s
  apart : ∀ (i j : Nat) s s' a, e[i]? = some s → e[j]? = some s' → s.mine = true → s'.mine = true → σ[i]? = some (some (.ref a)) → σ[j]? = some (some (.ref a)) → i = j

theorem SlR.kp {b : Tb} {w w' : Wd} {ga : List V} {i : Nat} {v : Option V} {s : Sl} (e : Es w w') (k : Kp w w') (h : SlR b w ga i v s) : SlR b w' ga i v s := by
  cases s with
  | no => trivial
  | val t => obtain ⟨x, q, r⟩ := h; exact ⟨x, q, r.kp k⟩
  | own t =>
    obtain ⟨a, o, q, h1, r, m, n⟩ := h
    refine ⟨a, o, q, e.keep a o h1 n, r.kp k, e.oldM a m, fun z => ?_⟩
    rcases e.newR a z with z | z
    · exact n z
    · rw [h1] at z; cases z
  | io t =>
    obtain ⟨a, o, q, h1, r, m, n, g⟩ := h
    refine ⟨a, o, q, e.keep a o h1 n, r.kp k, e.oldM a m, fun z => ?_, g⟩
    rcases e.newR a z with z | z
    · exact n z
    · rw [h1] at z; cases z
theorem SR.kp {b : Tb} {w w' : Wd} {ga : List V} {σ : St} {en : En} (r : SR b w ga σ en) (e : Es w w') (k : Kp w w') : SR b w' ga σ en :=
  ⟨r.len, fun i s h => let ⟨v, q, z⟩ := r.at_ i s h; ⟨v, q, z.kp e k⟩, r.apart⟩
end Y
/-! Y2: results, readings of our functions; names, constants, operators, comparisons, and, or, not, displays. -/
namespace Y
open PySem L2

/-- what comes of a piece of code: a result and the heap, an exception (its class, its fields) and the heap, or nothing that we speak of -/
inductive Res (α : Type) where
  | ok (a : α) (h : Hs)
  | exc (c : Nat) (fs : Option (List Str × List T)) (h : Hs)
  | bad
def Res.bind {α β : Type} (r : Res α) (f : α → Hs → Res β) : Res β :=
  match r with
  | .ok a h => f a h
  | .exc c fs h => .exc c fs h
  | .bad => .bad
@[simp] theorem Res.bind_ok {α β : Type} (a : α) (h : Hs) (f : α → Hs → Res β) : (Res.ok a h).bind f = f a h := rfl
@[simp] theorem Res.bind_exc {α β : Type} (c : Nat) (fs : Option (List Str × List T)) (h : Hs) (f : α → Hs → Res β) : (Res.exc c fs h : Res α).bind f = .exc c fs h := rfl
@[simp] theorem Res.bind_bad {α β : Type} (f : α → Hs → Res β) : (Res.bad : Res α).bind f = .bad := rfl

/-- an exception as it lies -/
def RepX (b : Tb) (w : Wd) (c : Nat) (fs : Option (List Str × List T)) (cls : Value) (d : Option Addr) : Prop :=
  cls = .ref (b.C c) ∧ match fs with
    | none => d = none
    | some (ks, ts) => ∃ a xs, d = some a ∧ w.H a = some (.xd xs) ∧ xs.map (·.1) = ks ∧ RepL b w ts (xs.map (·.2))

/-- what is wanted behind -/
def Po {α γ : Type} (b : Tb) (R : Wd → α → γ → Prop) (w : Wd) (W : XK) (Q : γ → Hp → Prop) : Res α → Prop
  | .ok a h => ∀ g w', Es w w' → HR b w' h → R w' a g → Q g w'.H
  | .exc c fs h => ∀ cls d w', Es w w' → HR b w' h → RepX b w' c fs cls d → W cls d w'.H
  | .bad => False
theorem Po.step {α γ : Type} {b : Tb} {R : Wd → α → γ → Prop} {w w1 : Wd} {W : XK} {Q : γ → Hp → Prop} {r : Res α} (e : Es w w1) (p : Po b R w W Q r) : Po b R w1 W Q r := by
  cases r with
  | ok a h => exact fun g w' e' hr q => p g w' (e.trans e') hr q
  | exc c fs h => exact fun cls d w' e' hr q => p cls d w' (e.trans e') hr q
  | bad => exact p
theorem Po.bind {α β γ δ : Type} {b : Tb} {R : Wd → α → γ → Prop} {S : Wd → β → δ → Prop} {w : Wd} {W : XK} {Q : δ → Hp → Prop} {r : Res α} {f : α → Hs → Res β} (p : Po b S w W Q (r.bind f)) :
    Po b R w W (fun g H1 => ∃ w1 h1 a, w1.H = H1 ∧ Es w w1 ∧ HR b w1 h1 ∧ R w1 a g ∧ Po b S w1 W Q (f a h1)) r := by
  cases r with
  | ok a h => exact fun g w' e hr q => ⟨w', h, a, rfl, e, hr, q, p.step e⟩
  | exc c fs h => exact p
  | bad => exact p
/-- .. the end seen from an earlier world -/
theorem Po.bindAt {α β γ δ : Type} {b : Tb} {R : Wd → α → γ → Prop} {S : Wd → β → δ → Prop} {w w2 : Wd} {W : XK} {Q : δ → Hp → Prop} {r : Res α} {f : α → Hs → Res β} (p : Po b S w W Q (r.bind f)) (e : Es w w2) :
    Po b R w2 W (fun g H1 => ∃ w3 h3 a, w3.H = H1 ∧ Es w2 w3 ∧ HR b w3 h3 ∧ R w3 a g ∧ Po b S w W Q (f a h3)) r := by
  cases r with
  | ok a h => exact fun g w' e' hr q => ⟨w', h, a, rfl, e', hr, q, p⟩
  | exc c fs h => exact fun cls d w' e' hr q => p cls d w' (e.trans e') hr q
  | bad => exact p
theorem Po.mono {α γ : Type} {b : Tb} {R : Wd → α → γ → Prop} {w : Wd} {W : XK} {Q Q' : γ → Hp → Prop} {r : Res α} (p : Po b R w W Q r) (h : ∀ g H, Q g H → Q' g H) : Po b R w W Q' r := by
  cases r with
  | ok a hh => exact fun g w' e' hr q => h _ _ (p g w' e' hr q)
  | exc c fs hh => exact p
  | bad => exact p
/-- the result as it lies already -/
theorem Po.fin {α γ : Type} {b : Tb} {R : Wd → α → γ → Prop} {w : Wd} {W : XK} {Q : γ → Hp → Prop} {a : α} {h : Hs} {g : γ} (p : Po b R w W Q (.ok a h)) (hr : HR b w h) (r : R w a g) : Q g w.H := p g w Ev.refl hr r

/-- the context of a frame: the table, the caller's arguments, what is wished of exceptions -/
structure Fr where
  b : Tb
  ga : List V
  W : WX
  w0 : Wd
  as : List Sl

/-- THE READING of a function of slots and heap -/
def tG {α γ : Type} (F : Fr) (R : Wd → α → γ → Prop) (m : En → Hs → Res α) : St → Hp → (γ → Hp → Prop) → Prop := fun σ H Q =>
  ∃ w e h, w.H = H ∧ SR F.b w F.ga σ e ∧ HR F.b w h ∧ Po F.b R w (fun c d H => F.W c d σ H) Q (m e h)
abbrev EM := En → Hs → Res T
abbrev tE (F : Fr) (m : EM) : TE := tG F (Rep F.b) m
/-- .. of a value that is read at once -/
abbrev tB (F : Fr) (m : EM) : TE := tG F (RepB F.b) m
abbrev tA (F : Fr) (m : En → Hs → Res (List T)) : TA := tG F (RepL F.b) m
abbrev tT (F : Fr) (m : En → Hs → Res Bool) : TT := tG F (fun _ (x k : Bool) => x = k) m

theorem tG.bind {α β γ δ : Type} {F : Fr} {R : Wd → α → γ → Prop} {S : Wd → β → δ → Prop} {m : En → Hs → Res α} {k : α → En → Hs → Res β} {σ : St} {H : Hp} {Q : δ → Hp → Prop}
    (p : tG F S (fun e h => (m e h).bind fun a h1 => k a e h1) σ H Q) :
    tG F R m σ H fun g H1 => ∃ w1 e h1 a, w1.H = H1 ∧ SR F.b w1 F.ga σ e ∧ HR F.b w1 h1 ∧ R w1 a g ∧ Po F.b S w1 (fun c d H => F.W c d σ H) Q (k a e h1) := by
  obtain ⟨w, e, h, rfl, sr, hr, p⟩ := p
  refine ⟨w, e, h, rfl, sr, hr, Po.mono (Po.bind (R := R) p) ?_⟩
  rintro g H ⟨w1, h1, a, rfl, es, hr1, ra, q⟩
  exact ⟨w1, e, h1, a, rfl, sr.kp es (hr.kp es), hr1, ra, q⟩
theorem tG.mono {α γ : Type} {F : Fr} {R : Wd → α → γ → Prop} {m : En → Hs → Res α} {σ : St} {H : Hp} {Q Q' : γ → Hp → Prop} (p : tG F R m σ H Q) (h : ∀ g H, Q g H → Q' g H) : tG F R m σ H Q' := by
  obtain ⟨w, e, hh, rfl, sr, hr, p⟩ := p
  exact ⟨w, e, hh, rfl, sr, hr, p.mono h⟩

/-! ### weakening -/
section
variable {X : Cx}
theorem wkE {e : Expr} {t t' : TE} (h : PE X e t) (i : ∀ σ H Q, t' σ H Q → t σ H Q) : PE X e t' := ⟨fun pins s σ H Q I q => h.run pins s σ H Q I (i σ H Q q)⟩
theorem wkT {e : Expr} {t t' : TT} (h : PT X e t) (i : ∀ σ H Q, t' σ H Q → t σ H Q) : PT X e t' := ⟨fun pins s σ H Q I q => h.run pins s σ H Q I (i σ H Q q)⟩
theorem wkA {e : List Expr} {t t' : TA} (h : PA X e t) (i : ∀ σ H Q, t' σ H Q → t σ H Q) : PA X e t' := ⟨fun pos pins s σ H Q I q => h.run pos pins s σ H Q I (i σ H Q q)⟩
theorem wkW {e : Expr} {t t' : TT} (h : PW X e t) (i : ∀ σ H Q, t' σ H Q → t σ H Q) : PW X e t' := ⟨fun wh pins s σ H Q I q => h.run wh pins s σ H Q I (i σ H Q q)⟩
end

/-! ### a new object -/
theorem HR.noM {b : Tb} {w : Wd} {h : Hs} (r : HR b w h) {p : Addr} (n : w.H p = none) : ¬ w.M p := fun z => by
  have q := r.mm p z
  rw [n] at q
  exact q
theorem Es.new {w : Wd} {p : Addr} {o : HO} (n : w.H p = none) : Es w { w with H := upd w.H p o } where
  keep := fun a u h _ => by
    show upd w.H p o a = some u
    rw [upd_ne (ne_of_none h n)]
    exact h
  newM := fun _ m _ => m
  oldM := fun _ m => m
  pre := List.prefix_refl _
  newR := fun _ m => .inl m
  live := fun a l => by
    show upd w.H p o a ≠ none
    unfold upd
    split
    · simp
    · exact l
theorem upd_keep {H : Hp} {a p : Addr} {u o : HO} (h : H a = some u) (n : H p = none) : upd H p o a = some u := by
  rw [upd_ne (ne_of_none h n)]
  exact h
theorem HR.new {b : Tb} {w : Wd} {h : Hs} (r : HR b w h) {p : Addr} {o : HO} (n : w.H p = none) : HR b { w with H := upd w.H p o } h where
  len := r.len
  nd := r.nd
  ob := fun i t q => by
    obtain ⟨a, u, h1, h2, h3⟩ := r.ob i t q
    exact ⟨a, u, h1, upd_keep h2 n, h3.kp (r.kp (Es.new n))⟩
  rm := r.rm
  mm := fun a m => by
    have hne : a ≠ p := fun z => by
      subst z
      exact r.noM n m
    show Mut (upd w.H p o a)
    rw [upd_ne hne]
    exact r.mm a m
/-- a new tuple, list as trees -/
theorem Po.newTup {b : Tb} {w : Wd} {h : Hs} {W : XK} {Q : VK} {xs : List T} {vs : List V} {p : Addr} (po : Po b (Rep b) w W Q (.ok (.tup xs) h)) (hr : HR b w h) (r : RepL b w xs vs) (n : w.H p = none) : Q (.ref p) (upd w.H p (.tup vs)) := by
  refine po (.ref p) { w with H := upd w.H p (.tup vs) } (Es.new n) (hr.new n) ?_
  unfold Rep
  exact ⟨p, vs, rfl, SqT.of upd_same, fun _ => upd_same, r.kp (hr.kp (Es.new n))⟩
theorem Po.newLst {b : Tb} {w : Wd} {h : Hs} {W : XK} {Q : VK} {xs : List T} {vs : List V} {p : Addr} (po : Po b (Rep b) w W Q (.ok (.lst xs) h)) (hr : HR b w h) (r : RepL b w xs vs) (n : w.H p = none) : Q (.ref p) (upd w.H p (.lst vs)) := by
  refine po (.ref p) { w with H := upd w.H p (.lst vs) } (Es.new n) (hr.new n) ?_
  unfold Rep
  exact ⟨p, vs, rfl, upd_same, hr.noM n, r.kp (hr.kp (Es.new n))⟩

/-! ### reading trees -/
/-- the items of a list, a tuple: a tree, or an object of the heap -/
def lstOf (h : Hs) : T → Option (List T)
  | .lst xs => some xs
  | .ref n => match h[n]? with
    | some (.lst xs) => some xs
    | _ => none
  | _ => none
def seqOf (h : Hs) : T → Option (List T)
  | .tup xs => some xs
  | .scr ns => some (ns.map T.int)
  | t => lstOf h t
theorem lstOf_rep {b : Tb} {w : Wd} {h : Hs} (hr : HR b w h) {t : T} {v : V} {xs : List T} (e : lstOf h t = some xs) (r : RepB b w t v) : ∃ a vs, v = .ref a ∧ w.H a = some (.lst vs) ∧ RepL b w xs vs := by
  cases t with
  | lst ys =>
    cases e
    obtain ⟨a, vs, e, h1, _, h2⟩ := r
    exact ⟨a, vs, e, h1, h2⟩
  | ref n =>
    have r : Rep b w (.ref n) v := r
    unfold Rep at r
    obtain ⟨a, e1, h1⟩ := r
    have e' : (match h[n]? with
      | some (.lst xs) => some xs
      | _ => none) = some xs := e
    split at e'
    · rename_i ys q
      cases e'
      obtain ⟨a', o, g1, g2, g3⟩ := hr.ob n _ q
      rw [h1] at g1
      cases g1
      unfold RepC at g3
      obtain ⟨vs, rfl, g3⟩ := g3
      exact ⟨a, vs, e1, g2, g3⟩
    · cases e'
  | _ => cases e
theorem seqOf_rep {b : Tb} {w : Wd} {h : Hs} (hr : HR b w h) {t : T} {v : V} {xs : List T} (e : seqOf h t = some xs) (r : RepB b w t v) : ∃ a vs, v = .ref a ∧ (SqL b.K w.H a vs ∨ SqT b.K w.H a vs) ∧ RepL b w xs vs := by
  have go : lstOf h t = some xs → ∃ a vs, v = .ref a ∧ (SqL b.K w.H a vs ∨ SqT b.K w.H a vs) ∧ RepL b w xs vs := fun e => by
    obtain ⟨a, vs, q, h1, h2⟩ := lstOf_rep hr e r
    exact ⟨a, vs, q, .inl (SqL.of h1), h2⟩
  cases t with
  | tup ys =>
    cases e
    have r : Rep b w (.tup xs) v := r
    unfold Rep at r
    obtain ⟨a, vs, q, h1, _, h2⟩ := r
    exact ⟨a, vs, q, .inr h1, h2⟩
  | scr ns =>
    cases e
    have r : Rep b w (.scr ns) v := r
    unfold Rep at r
    obtain ⟨a, q, h1⟩ := r
    refine ⟨a, ns.map V.int, q, .inl ?_, ?_⟩
    · rcases h1 with ⟨o, h1⟩ | h1
      · exact .inl (.inr ⟨o, h1⟩)
      · exact h1 _
    have key : ∀ ns : List Int, RepL b w (ns.map T.int) (ns.map V.int) := by
      intro ns
      induction ns with
      | nil => unfold RepL; rfl
      | cons n ns ih =>
        unfold RepL
        exact ⟨_, _, rfl, by unfold Rep; rfl, ih⟩
    exact key ns
  | _ => exact go e
theorem RepL.len {b : Tb} {w : Wd} : ∀ {xs : List T} {vs : List V}, RepL b w xs vs → vs.length = xs.length
  | [], _, h => by unfold RepL at h; subst h; rfl
  | x :: xs, _, h => by
    unfold RepL at h
    obtain ⟨v, r, rfl, _, h2⟩ := h
    rw [List.length_cons, List.length_cons, RepL.len h2]
theorem RepL.get {b : Tb} {w : Wd} : ∀ {xs : List T} {vs : List V} {i : Nat} {x : T}, RepL b w xs vs → xs[i]? = some x → ∃ v, vs[i]? = some v ∧ Rep b w x v
  | [], _, _, _, _, e => by simp at e
  | y :: ys, _, 0, x, h, e => by
    unfold RepL at h
    obtain ⟨v, r, rfl, h1, h2⟩ := h
    simp at e
    subst e
    exact ⟨v, rfl, h1⟩
  | y :: ys, _, i + 1, x, h, e => by
    unfold RepL at h
    obtain ⟨v, r, rfl, h1, h2⟩ := h
    exact RepL.get (i := i) h2 (by simpa using e)
theorem RepL.app {b : Tb} {w : Wd} : ∀ {xs ys : List T} {vs us : List V}, RepL b w xs vs → RepL b w ys us → RepL b w (xs ++ ys) (vs ++ us)
  | [], _, _, _, h, g => by unfold RepL at h; subst h; exact g
  | x :: xs, _, _, _, h, g => by
    unfold RepL at h
    obtain ⟨v, r, rfl, h1, h2⟩ := h
    show RepL b w (x :: (xs ++ _)) (v :: (r ++ _))
    unfold RepL
    exact ⟨v, _, rfl, h1, RepL.app h2 g⟩
theorem RepL.one {b : Tb} {w : Wd} {x : T} {v : V} (h : Rep b w x v) : RepL b w [x] [v] := by
  unfold RepL
  exact ⟨v, [], rfl, h, by unfold RepL; rfl⟩
theorem RepL.nil {b : Tb} {w : Wd} : RepL b w [] [] := by unfold RepL; rfl
theorem RepL.cons {b : Tb} {w : Wd} {x : T} {v : V} {xs : List T} {vs : List V} (h : Rep b w x v) (r : RepL b w xs vs) : RepL b w (x :: xs) (v :: vs) := by
  unfold RepL
  exact ⟨v, vs, rfl, h, r⟩
theorem RepL.uncons {b : Tb} {w : Wd} {x : T} {xs : List T} {vs : List V} (h : RepL b w (x :: xs) vs) : ∃ v r, vs = v :: r ∧ Rep b w x v ∧ RepL b w xs r := by
  unfold RepL at h
  exact h
theorem RepL.take {b : Tb} {w : Wd} : ∀ {xs : List T} {vs : List V} (n : Nat), RepL b w xs vs → RepL b w (xs.take n) (vs.take n)
  | _, _, 0, _ => by simp [RepL.nil]
  | [], _, n + 1, h => by unfold RepL at h; subst h; exact RepL.nil
  | x :: xs, _, n + 1, h => by
    obtain ⟨v, r, rfl, h1, h2⟩ := h.uncons
    exact RepL.cons h1 (RepL.take n h2)
theorem RepL.drop {b : Tb} {w : Wd} : ∀ {xs : List T} {vs : List V} (n : Nat), RepL b w xs vs → RepL b w (xs.drop n) (vs.drop n)
  | _, _, 0, h => h
  | [], _, n + 1, h => by unfold RepL at h; subst h; exact RepL.nil
  | x :: xs, _, n + 1, h => by
    obtain ⟨v, r, rfl, h1, h2⟩ := h.uncons
    exact RepL.drop n h2
theorem RepL.set {b : Tb} {w : Wd} {y : T} {u : V} (q : Rep b w y u) : ∀ {xs : List T} {vs : List V} (n : Nat), RepL b w xs vs → RepL b w (xs.set n y) (vs.set n u)
  | [], _, _, h => by unfold RepL at h; subst h; exact RepL.nil
  | x :: xs, _, 0, h => by
    obtain ⟨v, r, rfl, h1, h2⟩ := h.uncons
    exact RepL.cons q h2
  | x :: xs, _, n + 1, h => by
    obtain ⟨v, r, rfl, h1, h2⟩ := h.uncons
    exact RepL.cons h1 (RepL.set q n h2)
theorem RepL.rev {b : Tb} {w : Wd} : ∀ {xs : List T} {vs : List V}, RepL b w xs vs → RepL b w xs.reverse vs.reverse
  | [], _, h => by unfold RepL at h; subst h; exact RepL.nil
  | x :: xs, _, h => by
    obtain ⟨v, r, rfl, h1, h2⟩ := h.uncons
    rw [List.reverse_cons, List.reverse_cons]
    exact (RepL.rev h2).app (RepL.one h1)
theorem RepL.map {b : Tb} {w : Wd} {α : Type} {f : α → T} {g : α → V} (h : ∀ a, Rep b w (f a) (g a)) : ∀ xs : List α, RepL b w (xs.map f) (xs.map g)
  | [] => RepL.nil
  | x :: xs => RepL.cons (h x) (RepL.map h xs)
theorem RepL.ints {b : Tb} {w : Wd} : ∀ {ns : List Int} {vs : List V}, RepL b w (ns.map T.int) vs → vs = ns.map V.int
  | [], _, h => by unfold RepL at h; exact h
  | n :: ns, _, h => by
    obtain ⟨v, r, rfl, h1, h2⟩ := RepL.uncons (xs := ns.map T.int) h
    unfold Rep at h1
    rw [h1, RepL.ints h2]
    rfl
theorem RepL.bls {b : Tb} {w : Wd} : ∀ {ns : List Bool} {vs : List V}, RepL b w (ns.map T.bl) vs → vs = ns.map V.bl
  | [], _, h => by unfold RepL at h; exact h
  | n :: ns, _, h => by
    obtain ⟨v, r, rfl, h1, h2⟩ := RepL.uncons (xs := ns.map T.bl) h
    unfold Rep at h1
    rw [h1, RepL.bls h2]
    rfl
theorem RepL.strs {b : Tb} {w : Wd} : ∀ {ns : List Str} {vs : List V}, RepL b w (ns.map T.str) vs → vs = ns.map V.str
  | [], _, h => by unfold RepL at h; exact h
  | n :: ns, _, h => by
    obtain ⟨v, r, rfl, h1, h2⟩ := RepL.uncons (xs := ns.map T.str) h
    unfold Rep at h1
    rw [h1, RepL.strs h2]
    rfl

/-! ### names, constants -/
section
variable {X : Cx} {F : Fr} {pos : PySem.Pos}
def varM (i : Nat) : EM := fun e h => match e[i]? with
  | some (.val t) => .ok t h
  | _ => .bad
theorem s_var {i : Nat} {x : Str} (hv : PE X (.Name x pos) (tVar i)) : PE X (.Name x pos) (tE F (varM i)) := by
  refine wkE hv ?_
  rintro σ H Q ⟨w, e, h, rfl, sr, hr, p⟩
  unfold varM at p
  split at p
  · rename_i t q
    obtain ⟨v, hv, x, rfl, rx⟩ := sr.at_ i _ q
    exact ⟨x, hv, p.fin hr rx⟩
  · exact p.elim
def cM (t : T) : EM := fun _ h => .ok t h
theorem s_c {e : Expr} {v : V} {t : T} (hc : PE X e (tC v)) (r : ∀ w, Rep F.b w t v) : PE X e (tE F (cM t)) := by
  refine wkE hc ?_
  rintro σ H Q ⟨w, en, h, rfl, sr, hr, p⟩
  exact p.fin hr (r w)
theorem s_int {i : Int} {j : Nat} : PE X (.Constant (.int i) j pos) (tE F (cM (.int i))) := s_c pe_int fun _ => by unfold Rep; rfl
theorem s_bl {k : Bool} {j : Nat} : PE X (.Constant (.bool k) j pos) (tE F (cM (.bl k))) := s_c pe_bl fun _ => by unfold Rep; rfl
theorem s_non {j : Nat} : PE X (.Constant .none j pos) (tE F (cM .non)) := s_c pe_non fun _ => by unfold Rep; rfl
theorem s_str {x : Str} {j : Nat} : PE X (.Constant (.str x) j pos) (tE F (cM (.str x))) := s_c pe_str fun _ => by unfold Rep; rfl

/-! ### operators -/
def opM (f : T → T → Hs → Res T) (ma mb : EM) : EM := fun e h => (ma e h).bind fun x h1 => (mb e h1).bind fun y h2 => f x y h2
/-- an operation on two values does what f says -/
def OpS (X : Cx) (b : Tb) (fn : Value → Value → Sem Value) (f : T → T → Hs → Res T) : Prop :=
  ∀ W : XK, OpR X fn fun x y H Q => ∃ w h tx ty, w.H = H ∧ HR b w h ∧ RepB b w tx x ∧ RepB b w ty y ∧ Po b (Rep b) w W Q (f tx ty h)
variable {a c : Expr} {ma mb mc : EM} {f : T → T → Hs → Res T}
theorem t_op {σ : St} {H : Hp} {Q : VK} {r : R2} (p : tE F (opM f ma mb) σ H Q)
    (hr : ∀ (W : XK) (x y : V) (H : Hp) (Q : VK), (∃ w h tx ty, w.H = H ∧ HR F.b w h ∧ RepB F.b w tx x ∧ RepB F.b w ty y ∧ Po F.b (Rep F.b) w W Q (f tx ty h)) → r x y H Q) : tOp r (tB F ma) (tB F mb) σ H Q := by
  refine tG.mono (tG.bind (R := RepB F.b) p) ?_
  rintro x H1 ⟨w1, e, h1, tx, rfl, sr1, hr1, r1, p1⟩
  refine ⟨w1, e, h1, rfl, sr1, hr1, Po.mono (Po.bind (R := RepB F.b) p1) ?_⟩
  rintro y H2 ⟨w2, h2, ty, rfl, es, hr2, r2, p2⟩
  exact hr _ x y _ Q ⟨w2, h2, tx, ty, rfl, hr2, r1.es es (hr1.kp es), r2, p2⟩
/-- a value may be read at once -/
theorem s_b {e : Expr} {m : EM} (h : PE X e (tE F m)) : PE X e (tB F m) := by
  refine wkE h ?_
  rintro σ H Q ⟨w, en, h, rfl, sr, hr, p⟩
  refine ⟨w, en, h, rfl, sr, hr, ?_⟩
  generalize m en h = r at p ⊢
  cases r with
  | ok a h' => exact fun g w' es hr' q => p g w' es hr' (q.b hr')
  | exc c fs h' => exact p
  | bad => exact p
/-- an object of the frame's own, read at once -/
def ownM (i : Nat) : EM := fun e h => match e[i]? with
  | some (.own t) => .ok t h
  | some (.io t) => .ok t h
  | _ => .bad
theorem RepC.b {b : Tb} {w : Wd} {t : T} {a : Addr} {o : HO} (h : w.H a = some o) (r : RepC b w t o) (n : a ∉ w.ρ) : RepB b w t (.ref a) := by
  cases t <;> unfold RepC at r <;> first | exact r.elim | skip
  · obtain ⟨vs, rfl, r⟩ := r; exact ⟨a, vs, rfl, h, n, r⟩
  · obtain ⟨vs, rfl, e, r⟩ := r; exact ⟨a, vs, rfl, .inl h, n, e, r⟩
  · obtain ⟨vs, rfl, e, r⟩ := r; exact ⟨a, vs, rfl, .inl h, n, e, r⟩
  · obtain ⟨dx, vs, rfl, e, r⟩ := r; exact ⟨a, dx, vs, rfl, h, n, e, r⟩
theorem s_own {i : Nat} {x : Str} (hv : PE X (.Name x pos) (tVar i)) : PE X (.Name x pos) (tB F (ownM i)) := by
  refine wkE hv ?_
  rintro σ H Q ⟨w, e, h, rfl, sr, hr, p⟩
  unfold ownM at p
  split at p
  · rename_i t q
    obtain ⟨v, hv, a, o, rfl, h1, h2, h3, h4⟩ := sr.at_ i _ q
    exact ⟨_, hv, p.fin hr (h2.b h1 h4)⟩
  · rename_i t q
    obtain ⟨v, hv, a, o, rfl, h1, h2, h3, h4, _⟩ := sr.at_ i _ q
    exact ⟨_, hv, p.fin hr (h2.b h1 h4)⟩
  · exact p.elim
/-- .. for a rule that knows what is wished of exceptions -/
theorem OpS.rule {fn : Value → Value → Sem Value} (o : OpS X F.b fn f) : OpR X fn fun x y H Q => ∃ W : XK, ∃ w h tx ty, w.H = H ∧ HR F.b w h ∧ RepB F.b w tx x ∧ RepB F.b w ty y ∧ Po F.b (Rep F.b) w W Q (f tx ty h) := by
  rintro pins s σ H x y v u Q I rx ry ⟨W, q⟩
  exact o W pins s σ H x y v u Q I rx ry q
theorem s_op {op : Operator} (ho : OpS X F.b (binaryOp op) f) (ha : PE X a (tB F ma)) (hb : PE X c (tB F mb)) : PE X (.BinOp a op c pos) (tE F (opM f ma mb)) :=
  wkE (pe_op (OpS.rule (F := F) ho) ha hb) fun _ _ _ p => t_op p fun W _ _ _ _ q => ⟨W, q⟩
theorem s_cmp {op : CmpOp} (ho : OpS X F.b (compareOp op) f) (ha : PE X a (tB F ma)) (hb : PE X c (tB F mb)) (hm : behindInMarks op c = false := by first | exact nomark _ | rfl) : PE X (.Compare a [op] [c] pos) (tE F (opM f ma mb)) :=
  wkE (pe_cmpR (OpS.rule (F := F) ho) ha hb hm) fun _ _ _ p => t_op p fun W _ _ _ _ q => ⟨W, q⟩

/-- a value that is a bool, as a test -/
def tst (m : EM) : En → Hs → Res Bool := fun e h => (m e h).bind fun t h1 => match t with
  | .bl k => .ok k h1
  | _ => .bad
theorem t_tst {m : EM} {σ : St} {H : Hp} {Q : Bool → Hp → Prop} (p : tT F (tst m) σ H Q) : tTest (tE F m) σ H Q := by
  refine tG.mono (tG.bind (R := Rep F.b) p) ?_
  rintro x H1 ⟨w1, e, h1, tx, rfl, sr1, hr1, r1, p1⟩
  cases tx with
  | bl k =>
    unfold Rep at r1
    exact ⟨k, r1, Po.fin p1 hr1 rfl⟩
  | _ => exact (show False from p1).elim
theorem st_cmp {op : CmpOp} (ho : OpS X F.b (compareOp op) f) (ha : PE X a (tB F ma)) (hb : PE X c (tB F mb)) (hm : behindInMarks op c = false := by first | exact nomark _ | rfl) : PT X (.Compare a [op] [c] pos) (tT F (tst (opM f ma mb))) := by
  refine wkT (pt_cmpR (OpS.rule (F := F) ho) ha hb hm) fun σ H Q p => ?_
  have q := t_tst p
  exact t_op q fun W _ _ _ _ q => ⟨W, q⟩
/-- any expression that gives a bool, as a test -/
theorem st_val {e : Expr} {m : EM} (h : PE X e (tE F m)) (he : ∀ whole, isTrue e X.env whole = (do let v ← whole; standAt e.pos; holding [v] (truthy v)) := by intro _; rfl) : PT X e (tT F (tst m)) :=
  wkT (pt_val h he) fun _ _ _ p => t_tst p

/-! ### and, or, not, if -/
def andM (ma mb : EM) : EM := fun e h => (ma e h).bind fun t h1 => match t with
  | .bl true => mb e h1
  | .bl false => .ok (.bl false) h1
  | _ => .bad
def orM (ma mb : EM) : EM := fun e h => (ma e h).bind fun t h1 => match t with
  | .bl true => .ok (.bl true) h1
  | .bl false => mb e h1
  | _ => .bad
def notM (ma : EM) : EM := fun e h => (ma e h).bind fun t h1 => match t with
  | .bl k => .ok (.bl !k) h1
  | _ => .bad
def andT (ma mb : En → Hs → Res Bool) : En → Hs → Res Bool := fun e h => (ma e h).bind fun k h1 => if k then mb e h1 else .ok false h1
def orT (ma mb : En → Hs → Res Bool) : En → Hs → Res Bool := fun e h => (ma e h).bind fun k h1 => if k then .ok true h1 else mb e h1
def notT (ma : En → Hs → Res Bool) : En → Hs → Res Bool := fun e h => (ma e h).bind fun k h1 => .ok (!k) h1
def ifM (mt : En → Hs → Res Bool) (ma mb : EM) : EM := fun e h => (mt e h).bind fun k h1 => if k then ma e h1 else mb e h1
variable {rest : List Expr} {ta tb tc : En → Hs → Res Bool}
theorem s_and (ha : PE X a (tE F ma)) (hb : PE X (.BoolOp .And (c :: rest) pos) (tE F mb)) : PE X (.BoolOp .And (a :: c :: rest) pos) (tE F (andM ma mb)) := by
  refine wkE (pe_and ha hb) fun σ H Q p => ?_
  refine tG.mono (tG.bind (R := Rep F.b) p) ?_
  rintro x H1 ⟨w1, e, h1, tx, rfl, sr1, hr1, r1, p1⟩
  cases tx with
  | bl k =>
    unfold Rep at r1
    refine ⟨k, r1, ?_⟩
    cases k with
    | true => exact ⟨w1, e, h1, rfl, sr1, hr1, p1⟩
    | false => exact Po.fin p1 hr1 (by unfold Rep; rfl)
  | _ => exact (show False from p1).elim
theorem s_or (ha : PE X a (tE F ma)) (hb : PE X (.BoolOp .Or (c :: rest) pos) (tE F mb)) : PE X (.BoolOp .Or (a :: c :: rest) pos) (tE F (orM ma mb)) := by
  refine wkE (pe_or ha hb) fun σ H Q p => ?_
  refine tG.mono (tG.bind (R := Rep F.b) p) ?_
  rintro x H1 ⟨w1, e, h1, tx, rfl, sr1, hr1, r1, p1⟩
  cases tx with
  | bl k =>
    unfold Rep at r1
    refine ⟨k, r1, ?_⟩
    cases k with
    | false => exact ⟨w1, e, h1, rfl, sr1, hr1, p1⟩
    | true => exact Po.fin p1 hr1 (by unfold Rep; rfl)
  | _ => exact (show False from p1).elim
theorem s_one {op : BoolOp} (ha : PE X a (tE F ma)) : PE X (.BoolOp op [a] pos) (tE F ma) := pe_one ha
theorem s_not (ha : PE X a (tE F ma)) : PE X (.UnaryOp .Not a pos) (tE F (notM ma)) := by
  refine wkE (pe_not ha) fun σ H Q p => ?_
  refine tG.mono (tG.bind (R := Rep F.b) p) ?_
  rintro x H1 ⟨w1, e, h1, tx, rfl, sr1, hr1, r1, p1⟩
  cases tx with
  | bl k =>
    unfold Rep at r1
    exact ⟨k, r1, Po.fin p1 hr1 (by unfold Rep; rfl)⟩
  | _ => exact (show False from p1).elim
theorem st_and (ha : PT X a (tT F ta)) (hb : PW X (.BoolOp .And (c :: rest) pos) (tT F tb)) : PW X (.BoolOp .And (a :: c :: rest) pos) (tT F (andT ta tb)) := by
  refine wkW (pw_and ha hb) fun σ H Q p => ?_
  refine tG.mono (tG.bind (R := fun _ (x k : Bool) => x = k) p) ?_
  rintro x H1 ⟨w1, e, h1, tx, rfl, sr1, hr1, rfl, p1⟩
  cases tx with
  | true => exact ⟨w1, e, h1, rfl, sr1, hr1, p1⟩
  | false => exact Po.fin p1 hr1 rfl
theorem st_or (ha : PT X a (tT F ta)) (hb : PW X (.BoolOp .Or (c :: rest) pos) (tT F tb)) : PW X (.BoolOp .Or (a :: c :: rest) pos) (tT F (orT ta tb)) := by
  refine wkW (pw_or ha hb) fun σ H Q p => ?_
  refine tG.mono (tG.bind (R := fun _ (x k : Bool) => x = k) p) ?_
  rintro x H1 ⟨w1, e, h1, tx, rfl, sr1, hr1, rfl, p1⟩
  cases tx with
  | false => exact ⟨w1, e, h1, rfl, sr1, hr1, p1⟩
  | true => exact Po.fin p1 hr1 rfl
theorem st_and1 (ha : PT X a (tT F ta)) : PW X (.BoolOp .And [a] pos) (tT F ta) := pw_and1 ha
theorem st_or1 (ha : PT X a (tT F ta)) : PW X (.BoolOp .Or [a] pos) (tT F ta) := pw_or1 ha
theorem st_not (ha : PT X a (tT F ta)) : PT X (.UnaryOp .Not a pos) (tT F (notT ta)) := by
  refine wkT (pt_not ha) fun σ H Q p => ?_
  refine tG.mono (tG.bind (R := fun _ (x k : Bool) => x = k) p) ?_
  rintro x H1 ⟨w1, e, h1, tx, rfl, sr1, hr1, rfl, p1⟩
  exact Po.fin p1 hr1 rfl
theorem s_if {d : Expr} (hc : PT X d (tT F tc)) (ha : PE X a (tE F ma)) (hb : PE X c (tE F mb)) : PE X (.IfExp d a c pos) (tE F (ifM tc ma mb)) := by
  refine wkE (pe_ifExp hc ha hb) fun σ H Q p => ?_
  refine tG.mono (tG.bind (R := fun _ (x k : Bool) => x = k) p) ?_
  rintro x H1 ⟨w1, e, h1, tx, rfl, sr1, hr1, rfl, p1⟩
  cases tx with
  | true => exact ⟨w1, e, h1, rfl, sr1, hr1, p1⟩
  | false => exact ⟨w1, e, h1, rfl, sr1, hr1, p1⟩

/-! ### argument lists, displays -/
abbrev AM := En → Hs → Res (List T)
def anil : AM := fun _ h => .ok [] h
def acons (m : EM) (r : AM) : AM := fun e h => (m e h).bind fun x h1 => (r e h1).bind fun xs h2 => .ok (x :: xs) h2
variable {es : List Expr} {am : AM}
theorem a_nil : PA X [] (tA F anil) := by
  refine wkA pa_nil ?_
  rintro σ H Q ⟨w, en, h, rfl, sr, hr, p⟩
  exact p.fin hr RepL.nil
theorem a_cons (ha : PE X a (tE F ma)) (hr : PA X es (tA F am)) (hs : starEach (a :: es) X.env = (false, eval a X.env) :: starEach es X.env := by rfl) : PA X (a :: es) (tA F (acons ma am)) := by
  refine wkA (pa_cons ha hr hs) fun σ H Q p => ?_
  refine tG.mono (tG.bind (R := Rep F.b) p) ?_
  rintro x H1 ⟨w1, e, h1, tx, rfl, sr1, hr1, r1, p1⟩
  refine ⟨w1, e, h1, rfl, sr1, hr1, Po.mono (Po.bind (R := RepL F.b) p1) ?_⟩
  rintro y H2 ⟨w2, h2, ty, rfl, es, hr2, r2, p2⟩
  exact Po.fin p2 hr2 (RepL.cons (r1.kp (hr1.kp es)) r2)
def fits (n : Nat) : Bool := decide (n ≤ sizeLine)
def tupM (am : AM) : EM := fun e h => (am e h).bind fun xs h1 => if fits xs.length then .ok (.tup xs) h1 else .bad
def lstM (am : AM) : EM := fun e h => (am e h).bind fun xs h1 => if fits xs.length then .ok (.lst xs) h1 else .bad
theorem s_tup {k : Nat} (h : PA X es (tA F am)) : PE X (.Tuple es k pos) (tE F (tupM am)) := by
  refine wkE (pe_tup h) fun σ H Q p => ?_
  refine tG.mono (tG.bind (R := RepL F.b) p) ?_
  rintro vs H1 ⟨w1, e, h1, xs, rfl, sr1, hr1, r1, p1⟩
  split at p1
  · rename_i hf
    refine ⟨?_, fun q n => Po.newTup p1 hr1 r1 n⟩
    rw [r1.len]
    exact of_decide_eq_true hf
  · exact (show False from p1).elim
theorem s_lst (h : PA X es (tA F am)) : PE X (.List es pos) (tE F (lstM am)) := by
  refine wkE (pe_lst h) fun σ H Q p => ?_
  refine tG.mono (tG.bind (R := RepL F.b) p) ?_
  rintro vs H1 ⟨w1, e, h1, xs, rfl, sr1, hr1, r1, p1⟩
  split at p1
  · rename_i hf
    refine ⟨?_, fun q n => Po.newLst p1 hr1 r1 n⟩
    rw [r1.len]
    exact of_decide_eq_true hf
  · exact (show False from p1).elim
end
end Y
/-! Y3: what the operators, comparisons and built-in functions do with trees. -/
namespace Y
open PySem L2

section
variable {b : Tb} {w : Wd} {v : V}
theorem rb_non (r : RepB b w .non v) : v = .non := by
  have r : Rep b w .non v := r
  unfold Rep at r
  exact r
theorem rb_bl {k : Bool} (r : RepB b w (.bl k) v) : v = .bl k := by
  have r : Rep b w (.bl k) v := r
  unfold Rep at r
  exact r
theorem rb_int {k : Int} (r : RepB b w (.int k) v) : v = .int k := by
  have r : Rep b w (.int k) v := r
  unfold Rep at r
  exact r
theorem rb_str {k : Str} (r : RepB b w (.str k) v) : v = .str k := by
  have r : Rep b w (.str k) v := r
  unfold Rep at r
  exact r
theorem r_non : Rep b w .non .non := by unfold Rep; rfl
theorem r_bl {k : Bool} : Rep b w (.bl k) (.bl k) := by unfold Rep; rfl
theorem r_int {k : Int} : Rep b w (.int k) (.int k) := by unfold Rep; rfl
theorem r_str {k : Str} : Rep b w (.str k) (.str k) := by unfold Rep; rfl
end

/-! ### arithmetic -/
def smallI (i : Int) : Bool := decide (-(2 ^ 64) < i) && decide (i < 2 ^ 64)
def addF (x y : T) (h : Hs) : Res T := match x, y with
  | .int i, .int j => .ok (.int (i + j)) h
  | .str a, .str c => if fits (a.length + c.length) then .ok (.str (a ++ c)) h else .bad
  | x, y => match lstOf h x, lstOf h y with
    | some xs, some ys => if fits (xs.length + ys.length) then .ok (.lst (xs ++ ys)) h else .bad
    | _, _ => .bad
def subF (x y : T) (h : Hs) : Res T := match x, y with
  | .int i, .int j => .ok (.int (i - j)) h
  | _, _ => .bad
def mulF (x y : T) (h : Hs) : Res T := match x, y with
  | .int i, .int j => if smallI i || smallI j then .ok (.int (i * j)) h else .bad
  | _, _ => .bad
def divF (x y : T) (h : Hs) : Res T := match x, y with
  | .int i, .int j => if decide (0 < j) && decide (j < 2 ^ 64) then .ok (.int (i / j)) h else .bad
  | _, _ => .bad
def modF (x y : T) (h : Hs) : Res T := match x, y with
  | .int i, .int j => if decide (0 < j) then .ok (.int (i % j)) h else .bad
  | _, _ => .bad
def powF (x y : T) (h : Hs) : Res T := match x, y with
  | .int i, .int j => if decide (0 ≤ j) && decide (j ≤ 1000) && smallI i then .ok (.int (i ^ j.toNat)) h else .bad
  | _, _ => .bad
def shlF (x y : T) (h : Hs) : Res T := match x, y with
  | .int i, .int j => if decide (0 ≤ j) && decide (j ≤ 1000) && smallI i then .ok (.int (i * 2 ^ j.toNat)) h else .bad
  | _, _ => .bad
theorem small_of {i : Int} (h : smallI i = true) : -(2 ^ 64) < i ∧ i < 2 ^ 64 := by
  unfold smallI at h
  rw [Bool.and_eq_true] at h
  exact ⟨of_decide_eq_true h.1, of_decide_eq_true h.2⟩
theorem small_abs {i : Int} (h : smallI i = true) : i.natAbs < 2 ^ 64 := by
  have := small_of h
  omega
section
variable {X : Cx} {b : Tb}
/-- from a rule of the layer -/
theorem os_of {fn : Value → Value → Sem Value} {f : T → T → Hs → Res T} {r : R2} (hr : OpR X fn r)
    (h : ∀ (W : XK) (Q : VK) (x y : V) (w : Wd) (h : Hs) (tx ty : T), HR b w h → RepB b w tx x → RepB b w ty y → Po b (Rep b) w W Q (f tx ty h) → r x y w.H Q) : OpS X b fn f := by
  rintro W pins s σ H x y v u Q I rx ry ⟨w, hh, tx, ty, rfl, hr1, r1, r2, p⟩
  exact hr pins s σ _ x y v u Q I rx ry (h W Q x y w hh tx ty hr1 r1 r2 p)
theorem os_add : OpS X b (binaryOp .Add) addF := by
  refine os_of (op_add.or (op_add_str.or op_cat)) fun W Q x y w h tx ty hr r1 r2 p => ?_
  unfold addF at p
  split at p
  · exact .inl ⟨_, _, rb_int r1, rb_int r2, p.fin hr r_int⟩
  · split at p
    · rename_i hf
      exact .inr (.inl ⟨_, _, rb_str r1, rb_str r2, of_decide_eq_true hf, p.fin hr r_str⟩)
    · exact p.elim
  · split at p
    · rename_i xs ys e1 e2
      split at p
      · rename_i hf
        obtain ⟨a, vs, rfl, h1, l1⟩ := lstOf_rep hr e1 r1
        obtain ⟨c, us, rfl, h2, l2⟩ := lstOf_rep hr e2 r2
        refine .inr (.inr ⟨a, c, vs, us, rfl, rfl, h1, h2, ?_, fun q n => Po.newLst p hr (l1.app l2) n⟩)
        rw [l1.len, l2.len]
        exact of_decide_eq_true hf
      · exact p.elim
    · exact p.elim
theorem os_sub : OpS X b (binaryOp .Sub) subF := by
  refine os_of op_sub fun W Q x y w h tx ty hr r1 r2 p => ?_
  unfold subF at p
  split at p
  · exact ⟨_, _, rb_int r1, rb_int r2, p.fin hr r_int⟩
  · exact p.elim
theorem os_mul : OpS X b (binaryOp .Mult) mulF := by
  refine os_of op_mul fun W Q x y w h tx ty hr r1 r2 p => ?_
  unfold mulF at p
  split at p
  · split at p
    · rename_i hf
      refine ⟨_, _, rb_int r1, rb_int r2, ?_, p.fin hr r_int⟩
      rw [Bool.or_eq_true] at hf
      rcases hf with hf | hf
      · exact .inl (small_of hf)
      · exact .inr (small_of hf)
    · exact p.elim
  · exact p.elim
theorem os_div : OpS X b (binaryOp .FloorDiv) divF := by
  refine os_of op_fdivW fun W Q x y w h tx ty hr r1 r2 p => ?_
  unfold divF at p
  split at p
  · rename_i i j
    split at p
    · rename_i hf
      rw [Bool.and_eq_true] at hf
      have h0 := of_decide_eq_true hf.1
      have h1 := of_decide_eq_true hf.2
      exact ⟨_, _, rb_int r1, rb_int r2, wide_div (b := 64) h0 (by omega) (by decide) (by decide), p.fin hr r_int⟩
    · exact p.elim
  · exact p.elim
theorem os_mod : OpS X b (binaryOp .Mod) modF := by
  refine os_of op_mod fun W Q x y w h tx ty hr r1 r2 p => ?_
  unfold modF at p
  split at p
  · split at p
    · rename_i hf
      exact ⟨_, _, rb_int r1, rb_int r2, of_decide_eq_true hf, p.fin hr r_int⟩
    · exact p.elim
  · exact p.elim
theorem os_pow : OpS X b (binaryOp .Pow) powF := by
  refine os_of op_pow fun W Q x y w h tx ty hr r1 r2 p => ?_
  unfold powF at p
  split at p
  · split at p
    · rename_i hf
      rw [Bool.and_eq_true, Bool.and_eq_true] at hf
      have h0 := of_decide_eq_true hf.1.1
      have h1 := of_decide_eq_true hf.1.2
      exact ⟨_, _, rb_int r1, rb_int r2, ⟨h0, by omega, small_abs hf.2⟩, p.fin hr r_int⟩
    · exact p.elim
  · exact p.elim
theorem os_ishl : OpS X b (inplaceOp .LShift) shlF := by
  refine os_of iop_shl fun W Q x y w h tx ty hr r1 r2 p => ?_
  unfold shlF at p
  split at p
  · split at p
    · rename_i hf
      rw [Bool.and_eq_true, Bool.and_eq_true] at hf
      have h0 := of_decide_eq_true hf.1.1
      have h1 := of_decide_eq_true hf.1.2
      exact ⟨_, _, rb_int r1, rb_int r2, ⟨h0, by omega, small_abs hf.2⟩, p.fin hr r_int⟩
    · exact p.elim
  · exact p.elim
def iaddF (x y : T) (h : Hs) : Res T := match x, y with
  | .int i, .int j => .ok (.int (i + j)) h
  | _, _ => .bad
theorem os_iadd : OpS X b (inplaceOp .Add) iaddF := by
  refine os_of iop_add fun W Q x y w h tx ty hr r1 r2 p => ?_
  unfold iaddF at p
  split at p
  · exact ⟨_, _, rb_int r1, rb_int r2, p.fin hr r_int⟩
  · exact p.elim

/-! ### comparisons -/
def ltF (x y : T) (h : Hs) : Res T := match x, y with
  | .int i, .int j => .ok (.bl (decide (i < j))) h
  | _, _ => .bad
def leF (x y : T) (h : Hs) : Res T := match x, y with
  | .int i, .int j => .ok (.bl (decide (i ≤ j))) h
  | _, _ => .bad
def gtF (x y : T) (h : Hs) : Res T := match x, y with
  | .int i, .int j => .ok (.bl (decide (j < i))) h
  | _, _ => .bad
def geF (x y : T) (h : Hs) : Res T := match x, y with
  | .int i, .int j => .ok (.bl (decide (j ≤ i))) h
  | _, _ => .bad
theorem os_lt : OpS X b (compareOp .Lt) ltF := by
  refine os_of op_lt fun W Q x y w h tx ty hr r1 r2 p => ?_
  unfold ltF at p
  split at p
  · exact ⟨_, _, rb_int r1, rb_int r2, p.fin hr r_bl⟩
  · exact p.elim
theorem os_le : OpS X b (compareOp .LtE) leF := by
  refine os_of op_le fun W Q x y w h tx ty hr r1 r2 p => ?_
  unfold leF at p
  split at p
  · exact ⟨_, _, rb_int r1, rb_int r2, p.fin hr r_bl⟩
  · exact p.elim
theorem os_gt : OpS X b (compareOp .Gt) gtF := by
  refine os_of op_gt fun W Q x y w h tx ty hr r1 r2 p => ?_
  unfold gtF at p
  split at p
  · exact ⟨_, _, rb_int r1, rb_int r2, p.fin hr r_bl⟩
  · exact p.elim
theorem os_ge : OpS X b (compareOp .GtE) geF := by
  refine os_of op_ge fun W Q x y w h tx ty hr r1 r2 p => ?_
  unfold geF at p
  split at p
  · exact ⟨_, _, rb_int r1, rb_int r2, p.fin hr r_bl⟩
  · exact p.elim
def T.isNon : T → Bool
  | .non => true
  | _ => false
def isF (x y : T) (h : Hs) : Res T := match y with
  | .non => .ok (.bl x.isNon) h
  | _ => .bad
def isntF (x y : T) (h : Hs) : Res T := match y with
  | .non => .ok (.bl !x.isNon) h
  | _ => .bad
theorem isNon_of {w : Wd} {t : T} {v : V} (r : RepB b w t v) : t.isNon = decide (v = .non) := by
  cases t with
  | non => rw [rb_non r]; rfl
  | bl k => rw [rb_bl r]; rfl
  | int k => rw [rb_int r]; rfl
  | str k => rw [rb_str r]; rfl
  | tup xs =>
    have r : Rep b w (.tup xs) v := r
    unfold Rep at r
    obtain ⟨a, vs, rfl, _⟩ := r
    rfl
  | lst xs => obtain ⟨a, vs, rfl, _⟩ := r; rfl
  | dk ks ts => obtain ⟨a, vs, rfl, _⟩ := r; rfl
  | dt ks ts => obtain ⟨a, vs, rfl, _⟩ := r; rfl
  | ins c ks ts => obtain ⟨a, dx, vs, rfl, _⟩ := r; rfl
  | ref n =>
    have r : Rep b w (.ref n) v := r
    unfold Rep at r
    obtain ⟨a, rfl, _⟩ := r
    rfl
  | scr ns =>
    have r : Rep b w (.scr ns) v := r
    unfold Rep at r
    obtain ⟨a, rfl, _⟩ := r
    rfl
theorem os_is : OpS X b (compareOp .Is) isF := by
  refine os_of op_isN fun W Q x y w h tx ty hr r1 r2 p => ?_
  unfold isF at p
  split at p
  · refine ⟨rb_non r2, p.fin hr ?_⟩
    rw [isNon_of r1]
    exact r_bl
  · exact p.elim
theorem os_isnt : OpS X b (compareOp .IsNot) isntF := by
  refine os_of op_notN fun W Q x y w h tx ty hr r1 r2 p => ?_
  unfold isntF at p
  split at p
  · refine ⟨rb_non r2, p.fin hr ?_⟩
    rw [isNon_of r1]
    exact r_bl
  · exact p.elim

/-! ### data -/
mutual
def pd : T → Option PyData
  | .non => some .none
  | .bl k => some (.bool k)
  | .int i => some (.int i)
  | .str s => some (.str s)
  | .tup xs => (pds xs).map .tuple
  | .lst xs => (pds xs).map .list
  | _ => none
def pds : List T → Option (List PyData)
  | [] => some []
  | x :: xs => match pd x, pds xs with
    | some d, some ds => some (d :: ds)
    | _, _ => none
end
mutual
theorem pd_rep {w : Wd} : ∀ {t : T} {v : V} {d : PyData}, pd t = some d → Rep b w t v → Dp b.K w.H v d
  | .non, v, d, e, r => by
    unfold Rep at r
    unfold pd at e
    cases e
    rw [r]
    exact .non
  | .bl k, v, d, e, r => by
    unfold Rep at r
    unfold pd at e
    cases e
    rw [r]
    exact .bl k
  | .int k, v, d, e, r => by
    unfold Rep at r
    unfold pd at e
    cases e
    rw [r]
    exact .int k
  | .str k, v, d, e, r => by
    unfold Rep at r
    unfold pd at e
    cases e
    rw [r]
    exact .str k
  | .tup xs, v, d, e, r => by
    unfold Rep at r
    unfold pd at e
    obtain ⟨a, vs, rfl, h1, _, h2⟩ := r
    obtain ⟨ds, q, rfl⟩ := Option.map_eq_some_iff.mp e
    exact .tup h1 (pds_rep q h2)
  | .lst xs, v, d, e, r => by
    unfold Rep at r
    unfold pd at e
    obtain ⟨a, vs, rfl, h1, _, h2⟩ := r
    obtain ⟨ds, q, rfl⟩ := Option.map_eq_some_iff.mp e
    exact .lst (SqL.of h1) (pds_rep q h2)
  | .dk _ _, _, _, e, _ => by unfold pd at e; cases e
  | .dt _ _, _, _, e, _ => by unfold pd at e; cases e
  | .ins _ _ _, _, _, e, _ => by unfold pd at e; cases e
  | .ref _, _, _, e, _ => by unfold pd at e; cases e
theorem pds_rep {w : Wd} : ∀ {ts : List T} {vs : List V} {ds : List PyData}, pds ts = some ds → RepL b w ts vs → DpAll b.K w.H vs ds
  | [], vs, ds, e, r => by
    unfold RepL at r
    unfold pds at e
    cases e
    rw [r]
    exact .nil
  | x :: xs, vs, ds, e, r => by
    unfold RepL at r
    unfold pds at e
    obtain ⟨v, us, rfl, h1, h2⟩ := r
    split at e
    · rename_i d ds' q1 q2
      cases e
      exact .cons (pd_rep q1 h1) (pds_rep q2 h2)
    · cases e
end
/-- the data of a tree, of a list of the heap or of a frame's own -/
def pdH (h : Hs) (t : T) : Option PyData := match lstOf h t with
  | some xs => (pds xs).map .list
  | none => pd t
theorem pdH_rep {w : Wd} {h : Hs} (hr : HR b w h) {t : T} {v : V} {d : PyData} (e : pdH h t = some d) (r : RepB b w t v) : Dp b.K w.H v d := by
  unfold pdH at e
  split at e
  · rename_i xs q
    obtain ⟨a, vs, rfl, h1, h2⟩ := lstOf_rep hr q r
    obtain ⟨ds, q2, rfl⟩ := Option.map_eq_some_iff.mp e
    exact .lst (SqL.of h1) (pds_rep q2 h2)
  · cases t with
    | lst xs => rename_i q; cases q
    | non => exact pd_rep e r
    | bl k => exact pd_rep e r
    | int k => exact pd_rep e r
    | str k => exact pd_rep e r
    | tup k => exact pd_rep e r
    | dk _ _ => unfold pd at e; cases e
    | dt _ _ => unfold pd at e; cases e
    | ins _ _ _ => unfold pd at e; cases e
    | ref _ => unfold pd at e; cases e
    | scr _ => unfold pd at e; cases e
/-- == of two data -/
def deq (h : Hs) (x y : T) : Option Bool := match x, y with
  | .str a, .str c => some (decide (a = c))
  | x, y => match pdH h x, pdH h y with
    | some d, some e => if SeqAt.shaped d && SeqAt.shaped e then some (PyData.eqv d e) else none
    | _, _ => none
def eqF (x y : T) (h : Hs) : Res T := match deq h x y with
  | some k => .ok (.bl k) h
  | none => .bad
def neF (x y : T) (h : Hs) : Res T := match deq h x y with
  | some k => .ok (.bl !k) h
  | none => .bad
theorem os_eq {k : Nat} (hr : Room k X.A) (hK : X.K = b.K) : OpS X b (compareOp .Eq) eqF := by
  refine os_of (op_eq.or (op_eqD hr.units)) fun W Q x y w h tx ty hr r1 r2 p => ?_
  unfold eqF at p
  split at p
  · rename_i k e
    unfold deq at e
    split at e
    · cases e
      rw [rb_str r1, rb_str r2]
      refine .inl ⟨rfl, ?_⟩
      have := p.fin hr r_bl
      rw [dec_str]
      rw [Bool.beq_eq_decide_eq]
      exact this
    · split at e
      · rename_i d e' q1 q2
        split at e
        · rename_i hs
          cases e
          rw [Bool.and_eq_true] at hs
          rw [hK]
          exact .inr ⟨d, e', pdH_rep hr q1 r1, pdH_rep hr q2 r2, hs.1, hs.2, p.fin hr r_bl⟩
        · cases e
      · cases e
  · exact p.elim
theorem os_ne {k : Nat} (hr : Room k X.A) (hK : X.K = b.K) : OpS X b (compareOp .NotEq) neF := by
  refine os_of (op_ne.or (op_neD hr.units)) fun W Q x y w h tx ty hr r1 r2 p => ?_
  unfold neF at p
  split at p
  · rename_i k e
    unfold deq at e
    split at e
    · cases e
      rw [rb_str r1, rb_str r2]
      refine .inl ⟨rfl, ?_⟩
      have := p.fin hr r_bl
      rw [dec_str]
      rw [Bool.beq_eq_decide_eq]
      exact this
    · split at e
      · rename_i d e' q1 q2
        split at e
        · rename_i hs
          cases e
          rw [Bool.and_eq_true] at hs
          rw [hK]
          exact .inr ⟨d, e', pdH_rep hr q1 r1, pdH_rep hr q2 r2, hs.1, hs.2, p.fin hr r_bl⟩
        · cases e
      · cases e
  · exact p.elim
/-- x in a list of data -/
def inL (h : Hs) (x y : T) : Option Bool := match pdH h x, lstOf h y with
  | some d, some ys => match pds ys with
    | some ds => if SeqAt.shaped d && SeqAt.shaped (.list ds) then some (ds.any fun z => PyData.eqv z d) else none
    | none => none
  | _, _ => none
def inLF (x y : T) (h : Hs) : Res T := match inL h x y with
  | some k => .ok (.bl k) h
  | none => .bad
def ninLF (x y : T) (h : Hs) : Res T := match inL h x y with
  | some k => .ok (.bl !k) h
  | none => .bad
theorem inL_rep {w : Wd} {h : Hs} (hr : HR b w h) {x y : T} {vx vy : V} {k : Bool} (e : inL h x y = some k) (r1 : RepB b w x vx) (r2 : RepB b w y vy) :
    ∃ d ds, Dp b.K w.H vx d ∧ Dp b.K w.H vy (.list ds) ∧ SeqAt.shaped d = true ∧ SeqAt.shaped (.list ds) = true ∧ k = ds.any fun z => PyData.eqv z d := by
  unfold inL at e
  split at e
  · rename_i d ys q1 q2
    split at e
    · rename_i ds q3
      split at e
      · rename_i hs
        cases e
        rw [Bool.and_eq_true] at hs
        obtain ⟨a, vs, rfl, h1, h2⟩ := lstOf_rep hr q2 r2
        exact ⟨d, ds, pdH_rep hr q1 r1, .lst (SqL.of h1) (pds_rep q3 h2), hs.1, hs.2, rfl⟩
      · cases e
    · cases e
  · cases e
theorem units65 {k : Nat} {A : Around} (r : Room k A) : A.units + 65 < cLine := by have := r.un; omega
theorem os_inL {k : Nat} (hr : Room k X.A) (hK : X.K = b.K) : OpS X b (compareOp .In) inLF := by
  refine os_of (op_inD (units65 hr)) fun W Q x y w h tx ty hr r1 r2 p => ?_
  unfold inLF at p
  split at p
  · rename_i k e
    obtain ⟨d, ds, h1, h2, h3, h4, rfl⟩ := inL_rep hr e r1 r2
    rw [hK]
    exact ⟨d, ds, h1, h2, h3, h4, p.fin hr r_bl⟩
  · exact p.elim
theorem os_ninL {k : Nat} (hr : Room k X.A) (hK : X.K = b.K) : OpS X b (compareOp .NotIn) ninLF := by
  refine os_of (op_notInD (units65 hr)) fun W Q x y w h tx ty hr r1 r2 p => ?_
  unfold ninLF at p
  split at p
  · rename_i k e
    obtain ⟨d, ds, h1, h2, h3, h4, rfl⟩ := inL_rep hr e r1 r2
    rw [hK]
    exact ⟨d, ds, h1, h2, h3, h4, p.fin hr r_bl⟩
  · exact p.elim

/-! ### subscripts -/
/-- the place that an index of any sign means -/
def ixF (x y : T) (h : Hs) : Res T := match seqOf h x, y with
  | some xs, .int i => match atI xs i with
    | some t => .ok t h
    | none => .bad
  | _, _ => .bad
theorem atI_rep {w : Wd} {xs : List T} {vs : List V} {i : Int} {t : T} (r : RepL b w xs vs) (h : atI xs i = some t) : ∃ v, atI vs i = some v ∧ Rep b w t v := by
  unfold atI at h ⊢
  rw [r.len]
  cases e : ixN xs.length i with
  | none => rw [e] at h; cases h
  | some j =>
    rw [e] at h
    have h : xs[j]? = some t := h
    obtain ⟨v, q, rv⟩ := r.get h
    exact ⟨v, q, rv⟩
/-- a subscript on two values -/
def IxS (X : Cx) (b : Tb) (f : T → T → Hs → Res T) : Prop :=
  IxR X fun x y H Q => ∃ W : XK, ∃ w h tx ty, w.H = H ∧ HR b w h ∧ RepB b w tx x ∧ RepB b w ty y ∧ Po b (Rep b) w W Q (f tx ty h)
theorem is_ix (hK : X.K = b.K) : IxS X b ixF := by
  rintro value slice pins s σ H x y v u Q I rx ry ⟨W, w, h, tx, ty, rfl, hr, r1, r2, p⟩ hs
  refine ix_seq value slice pins s σ _ x y v u Q I rx ry ?_ hs
  unfold ixF at p
  split at p
  · rename_i xs i q
    split at p
    · rename_i t e
      obtain ⟨a, vs, rfl, hv, l⟩ := seqOf_rep hr q r1
      obtain ⟨z, hz, rz⟩ := atI_rep l e
      rcases hv with hv | hv
      · exact .inl ⟨a, vs, i, z, rfl, rb_int r2, hK ▸ hv, hz, p.fin hr rz⟩
      · exact .inr (.inl ⟨a, vs, i, z, rfl, rb_int r2, hK ▸ hv, hz, p.fin hr rz⟩)
    · exact p.elim
  · exact p.elim
variable {F : Fr} {pos : PySem.Pos} {a c : Expr} {ma mb : EM} {f : T → T → Hs → Res T}
theorem s_ix (ho : IxS X F.b f) (ha : PE X a (tB F ma)) (hb : PE X c (tB F mb)) (hs : PlainIx c := by intro _ _; rfl) : PE X (.Subscript a c pos) (tE F (opM f ma mb)) :=
  wkE (pe_ix ho ha hb hs) fun _ _ _ p => t_op p fun W _ _ _ _ q => ⟨W, q⟩
end
end Y
/-! Y4: built-in functions, slices, dicts, what is walked, comprehensions, calls of defs. -/
namespace Y
open PySem L2

/-! ### argument lists that are read at once -/
def RepBL (b : Tb) (w : Wd) : List T → List V → Prop
  | [], vs => vs = []
  | x :: xs, vs => ∃ v r, vs = v :: r ∧ RepB b w x v ∧ RepBL b w xs r
abbrev tAB (F : Fr) (m : En → Hs → Res (List T)) : TA := tG F (RepBL F.b) m
/-- a call by values -/
def CallS (X : Cx) (b : Tb) (fn : Value) (f : List T → Hs → Res T) : Prop :=
  CallR X fn fun vs H Q => ∃ W : XK, ∃ w h ts, w.H = H ∧ HR b w h ∧ RepBL b w ts vs ∧ Po b (Rep b) w W Q (f ts h)
def callBM (f : List T → Hs → Res T) (am : AM) : EM := fun e h => (am e h).bind f
section
variable {X : Cx} {F : Fr} {pos p : PySem.Pos} {a e : Expr} {es : List Expr} {ma : EM} {am : AM} {f : List T → Hs → Res T}
theorem ab_nil : PA X [] (tAB F anil) := by
  refine wkA pa_nil ?_
  rintro σ H Q ⟨w, en, h, rfl, sr, hr, p⟩
  exact p.fin hr rfl
theorem ab_cons (ha : PE X a (tB F ma)) (hr : PA X es (tAB F am)) (hs : starEach (a :: es) X.env = (false, eval a X.env) :: starEach es X.env := by rfl) : PA X (a :: es) (tAB F (acons ma am)) := by
  refine wkA (pa_cons ha hr hs) fun σ H Q p => ?_
  refine tG.mono (tG.bind (R := RepB F.b) p) ?_
  rintro x H1 ⟨w1, e, h1, tx, rfl, sr1, hr1, r1, p1⟩
  refine ⟨w1, e, h1, rfl, sr1, hr1, Po.mono (Po.bind (R := RepBL F.b) p1) ?_⟩
  rintro y H2 ⟨w2, h2, ty, rfl, es, hr2, r2, p2⟩
  exact Po.fin p2 hr2 ⟨x, y, rfl, r1.es es (hr1.kp es), r2⟩
theorem t_callB {r : List V → Hp → VK → Prop} {σ : St} {H : Hp} {Q : VK} (p : tE F (callBM f am) σ H Q)
    (hr : ∀ (W : XK) (vs : List V) (H : Hp) (Q : VK), (∃ w h ts, w.H = H ∧ HR F.b w h ∧ RepBL F.b w ts vs ∧ Po F.b (Rep F.b) w W Q (f ts h)) → r vs H Q) : tCB r (tAB F am) σ H Q := by
  refine tG.mono (tG.bind (R := RepBL F.b) (k := fun ts _ h => f ts h) p) ?_
  rintro vs H1 ⟨w1, e, h1, ts, rfl, sr1, hr1, r1, p1⟩
  exact hr _ vs _ Q ⟨w1, h1, ts, rfl, hr1, r1, p1⟩
theorem s_callB {x : Str} {id : String} (hc : CallS X F.b (.builtin id) f) (hg : Gl X x) (hm : X.mg x = none) (hv : bootBuiltins x = some (.builtin id)) (ha : PA X (e :: es) (tAB F am)) (hn : x ≠ "__name__" := by decide) (hdb : (x == ("__debug__" : Str)) = false := by decide)
    (he : starEach (e :: es) X.env = (false, eval e X.env) :: starEach es X.env := by rfl) (hpl : (backTo pos (starEach es X.env)).any (·.1) = false := by rfl) : PE X (.Call (.Name x p) (e :: es) [] pos) (tE F (callBM f am)) :=
  wkE (pe_callB hc hg hm hv ha hn hdb he hpl) fun _ _ _ q => t_callB q fun W _ _ _ z => ⟨W, z⟩
theorem s_callTy {x : Str} {id : String} (hc : CallS X F.b (.type id) f) (hg : Gl X x) (hm : X.mg x = none) (hv : bootBuiltins x = some (.type id)) (ha : PA X (e :: es) (tAB F am)) (hn : x ≠ "__name__" := by decide) (hdb : (x == ("__debug__" : Str)) = false := by decide)
    (he : starEach (e :: es) X.env = (false, eval e X.env) :: starEach es X.env := by rfl) (hpl : (backTo pos (starEach es X.env)).any (·.1) = false := by rfl) : PE X (.Call (.Name x p) (e :: es) [] pos) (tE F (callBM f am)) :=
  wkE (pe_callTy hc hg hm hv ha hn hdb he hpl) fun _ _ _ q => t_callB q fun W _ _ _ z => ⟨W, z⟩

/-- from a rule of the layer -/
theorem cs_of {b : Tb} {fn : Value} {r : List V → Hp → VK → Prop} (hr : CallR X fn r)
    (h : ∀ (W : XK) (Q : VK) (vs : List V) (w : Wd) (h : Hs) (ts : List T), HR b w h → RepBL b w ts vs → Po b (Rep b) w W Q (f ts h) → r vs w.H Q) : CallS X b fn f := by
  rintro pins s σ H vs us Q I rx ⟨W, w, hh, ts, rfl, hr1, r1, p⟩
  exact hr pins s σ _ vs us Q I rx (h W Q vs w hh ts hr1 r1 p)
variable {b : Tb}
theorem rbl1 {w : Wd} {t : T} {vs : List V} (r : RepBL b w [t] vs) : ∃ v, vs = [v] ∧ RepB b w t v := by
  obtain ⟨v, r, rfl, h1, h2⟩ := r
  cases (show r = [] from h2)
  exact ⟨v, rfl, h1⟩
theorem rbl2 {w : Wd} {t u : T} {vs : List V} (r : RepBL b w [t, u] vs) : ∃ v x, vs = [v, x] ∧ RepB b w t v ∧ RepB b w u x := by
  obtain ⟨v, r, rfl, h1, h2⟩ := r
  obtain ⟨x, rfl, h3⟩ := rbl1 h2
  exact ⟨v, x, rfl, h1, h3⟩
theorem rbl3 {w : Wd} {t u z : T} {vs : List V} (r : RepBL b w [t, u, z] vs) : ∃ v x y, vs = [v, x, y] ∧ RepB b w t v ∧ RepB b w u x ∧ RepB b w z y := by
  obtain ⟨v, r, rfl, h1, h2⟩ := r
  obtain ⟨x, y, rfl, h3, h4⟩ := rbl2 h2
  exact ⟨v, x, y, rfl, h1, h3, h4⟩

/-! ### the built-in functions -/
def lenF (ts : List T) (h : Hs) : Res T := match ts with
  | [.str s] => if fits s.length then .ok (.int s.length) h else .bad
  | [.dk ks _] => .ok (.int ks.length) h
  | [t] => match seqOf h t with
    | some xs => .ok (.int xs.length) h
    | none => .bad
  | _ => .bad
theorem call_lenK : CallR X (.builtin "len") (fun xs H Q => ∃ a kvs, xs = [V.ref a] ∧ Rd H a (.dK kvs) ∧ Q (.int kvs.length) H) := by
  intro pins s σ H xs us Q I r h
  obtain ⟨a, kvs, rfl, e, q⟩ := h
  obtain ⟨u, rfl, rx⟩ := vals1 r
  cases (show u = Value.ref a from rx)
  exact d_len I e fun t s' I' => ⟨.int kvs.length, H, I', ⟨_, rfl⟩, q⟩
theorem cs_len (hK : X.K = b.K) : CallS X b (.builtin "len") lenF := by
  refine cs_of (call_len.or call_lenK) fun W Q vs w h ts hr r p => ?_
  unfold lenF at p
  split at p
  · split at p
    · rename_i s hf
      obtain ⟨v, rfl, r1⟩ := rbl1 r
      rw [rb_str r1]
      exact .inl ⟨.str s, s.length, rfl, ⟨of_decide_eq_true hf, rfl⟩, p.fin hr r_int⟩
    · exact p.elim
  · obtain ⟨v, rfl, a, kvs, rfl, h1, h2, h3, h4⟩ := rbl1 r
    refine .inr ⟨a, kvs, rfl, h1, ?_⟩
    rw [← List.length_map (f := (·.1)), h3]
    exact p.fin hr r_int
  · split at p
    · rename_i xs q
      obtain ⟨v, rfl, r1⟩ := rbl1 r
      obtain ⟨a, us, rfl, hv, l⟩ := seqOf_rep hr q r1
      rw [← hK] at hv
      refine .inl ⟨_, _, rfl, ?_, p.fin hr r_int⟩
      rcases hv with hv | hv
      · exact .inl ⟨us, hv, l.len.symm⟩
      · exact .inr ⟨us, hv, l.len.symm⟩
    · exact p.elim
  · exact p.elim
def listF (ts : List T) (h : Hs) : Res T := match ts with
  | [t] => match seqOf h t with
    | some xs => .ok (.lst xs) h
    | none => .bad
  | _ => .bad
theorem cs_list (hK : X.K = b.K) : CallS X b (.type "list") listF := by
  refine cs_of call_list_of fun W Q vs w h ts hr r p => ?_
  unfold listF at p
  split at p
  · split at p
    · rename_i xs q
      obtain ⟨v, rfl, r1⟩ := rbl1 r
      obtain ⟨a, us, rfl, hv, l⟩ := seqOf_rep hr q r1
      rw [← hK] at hv
      exact ⟨a, us, rfl, hv, fun p' n => Po.newLst p hr l n⟩
    · exact p.elim
  · exact p.elim
def tupleF (ts : List T) (h : Hs) : Res T := match ts with
  | [t] => match lstOf h t with
    | some xs => .ok (.tup xs) h
    | none => .bad
  | _ => .bad
theorem cs_tuple : CallS X b (.type "tuple") tupleF := by
  refine cs_of call_tuple_of fun W Q vs w h ts hr r p => ?_
  unfold tupleF at p
  split at p
  · split at p
    · rename_i xs q
      obtain ⟨v, rfl, r1⟩ := rbl1 r
      obtain ⟨a, us, rfl, hv, l⟩ := lstOf_rep hr q r1
      exact ⟨a, us, rfl, .inl ⟨SqL.of hv, fun p' n => Po.newTup p hr l n⟩⟩
    · exact p.elim
  · exact p.elim
def absF (ts : List T) (h : Hs) : Res T := match ts with
  | [.int i] => .ok (.int (if i < 0 then -i else i)) h
  | _ => .bad
theorem cs_abs : CallS X b (.builtin "abs") absF := by
  refine cs_of call_abs fun W Q vs w h ts hr r p => ?_
  unfold absF at p
  split at p
  · obtain ⟨v, rfl, r1⟩ := rbl1 r
    exact ⟨_, by rw [rb_int r1], p.fin hr r_int⟩
  · exact p.elim
/-- whole numbers -/
def intsOf : List T → Option (List Int)
  | [] => some []
  | .int i :: r => (intsOf r).map (i :: ·)
  | _ => none
theorem intsOf_eq : ∀ {ts : List T} {ns : List Int}, intsOf ts = some ns → ts = ns.map T.int
  | [], ns, h => by cases h; rfl
  | .int i :: r, ns, h => by
    obtain ⟨m, q, rfl⟩ := Option.map_eq_some_iff.mp (show (intsOf r).map (i :: ·) = some ns from h)
    rw [intsOf_eq q]
    rfl
theorem intsOf_map : ∀ ns : List Int, intsOf (ns.map T.int) = some ns
  | [] => rfl
  | n :: ns => by
    show (intsOf (ns.map T.int)).map (n :: ·) = some (n :: ns)
    rw [intsOf_map ns]
    rfl
def minL : List Int → Option Int
  | [] => none
  | x :: xs => some (xs.foldl min x)
def maxL : List Int → Option Int
  | [] => none
  | x :: xs => some (xs.foldl max x)
theorem foldl_min_le : ∀ (xs : List Int) (x : Int), xs.foldl min x ≤ x ∧ (∀ y ∈ xs, xs.foldl min x ≤ y) ∧ (xs.foldl min x = x ∨ xs.foldl min x ∈ xs)
  | [], x => ⟨Int.le_refl _, fun _ h => (nomatch h), .inl rfl⟩
  | y :: ys, x => by
    obtain ⟨h1, h2, h3⟩ := foldl_min_le ys (min x y)
    rw [List.foldl_cons]
    refine ⟨by omega, fun z hz => ?_, ?_⟩
    · rcases List.mem_cons.mp hz with rfl | hz
      · omega
      · exact h2 z hz
    · rcases h3 with h3 | h3
      · rw [h3]
        by_cases q : x ≤ y
        · exact .inl (by omega)
        · exact .inr (List.mem_cons.mpr (.inl (by omega)))
      · exact .inr (List.mem_cons_of_mem _ h3)
theorem foldl_max_le : ∀ (xs : List Int) (x : Int), x ≤ xs.foldl max x ∧ (∀ y ∈ xs, y ≤ xs.foldl max x) ∧ (xs.foldl max x = x ∨ xs.foldl max x ∈ xs)
  | [], x => ⟨Int.le_refl _, fun _ h => (nomatch h), .inl rfl⟩
  | y :: ys, x => by
    obtain ⟨h1, h2, h3⟩ := foldl_max_le ys (max x y)
    rw [List.foldl_cons]
    refine ⟨by omega, fun z hz => ?_, ?_⟩
    · rcases List.mem_cons.mp hz with rfl | hz
      · omega
      · exact h2 z hz
    · rcases h3 with h3 | h3
      · rw [h3]
        by_cases q : y ≤ x
        · exact .inl (by omega)
        · exact .inr (List.mem_cons.mpr (.inl (by omega)))
      · exact .inr (List.mem_cons_of_mem _ h3)
theorem minL_of {ns : List Int} {k m : Int} (h : minL ns = some k) (hm : m ∈ ns) (hl : ∀ y ∈ ns, m ≤ y) : m = k := by
  cases ns with
  | nil => cases h
  | cons x xs =>
    cases h
    obtain ⟨h1, h2, h3⟩ := foldl_min_le xs x
    have a : m ≤ xs.foldl min x := by
      rcases h3 with h3 | h3
      · rw [h3]; exact hl x List.mem_cons_self
      · exact hl _ (List.mem_cons_of_mem _ h3)
    rcases List.mem_cons.mp hm with rfl | hm
    · omega
    · have := h2 m hm; omega
theorem maxL_of {ns : List Int} {k m : Int} (h : maxL ns = some k) (hm : m ∈ ns) (hl : ∀ y ∈ ns, y ≤ m) : m = k := by
  cases ns with
  | nil => cases h
  | cons x xs =>
    cases h
    obtain ⟨h1, h2, h3⟩ := foldl_max_le xs x
    have a : xs.foldl max x ≤ m := by
      rcases h3 with h3 | h3
      · rw [h3]; exact hl x List.mem_cons_self
      · exact hl _ (List.mem_cons_of_mem _ h3)
    rcases List.mem_cons.mp hm with rfl | hm
    · omega
    · have := h2 m hm; omega
def minF (ts : List T) (h : Hs) : Res T := match ts with
  | [.int i, .int j] => .ok (.int (min i j)) h
  | [.int i, .int j, .int k] => .ok (.int (min (min i j) k)) h
  | [t] => match (lstOf h t).bind intsOf with
    | some ns => match minL ns with
      | some m => .ok (.int m) h
      | none => .bad
    | none => .bad
  | _ => .bad
def maxF (ts : List T) (h : Hs) : Res T := match ts with
  | [.int i, .int j] => .ok (.int (max i j)) h
  | [.int i, .int j, .int k] => .ok (.int (max (max i j) k)) h
  | [t] => match (lstOf h t).bind intsOf with
    | some ns => match maxL ns with
      | some m => .ok (.int m) h
      | none => .bad
    | none => .bad
  | _ => .bad
theorem cs_min (hK : X.K = b.K) (hc : X.calm = true) : CallS X b (.builtin "min") minF := by
  refine cs_of ((call_min2 hc).or ((call_min3Nu hc).or (cr_min hc))) fun W Q vs w h ts hr r p => ?_
  unfold minF at p
  split at p
  · rename_i i j
    obtain ⟨v, x, rfl, r1, r2⟩ := rbl2 r
    refine .inl ⟨i, j, by rw [rb_int r1, rb_int r2], ?_⟩
    have e : (if j < i then j else i) = min i j := by split <;> omega
    rw [e]
    exact p.fin hr r_int
  · rename_i i j k
    obtain ⟨v, x, y, rfl, r1, r2, r3⟩ := rbl3 r
    rw [rb_int r1, rb_int r2, rb_int r3]
    refine .inr (.inl ⟨_, _, _, .int (min (min i j) k), rfl, ?_, p.fin hr r_int⟩)
    have e : ∀ a c : Int, nuMin2 (.int a) (.int c) = some (.int (min a c)) := fun a c => by
      show some (if decide (c < a) = true then V.int c else V.int a) = _
      by_cases q : c < a
      · rw [if_pos (decide_eq_true q)]; congr 2; omega
      · rw [if_neg (by simpa using q)]; congr 2; omega
    unfold nuMin3
    rw [e]
    exact e _ _
  · split at p
    · rename_i ns q
      split at p
      · rename_i m e
        obtain ⟨xs, q1, q2⟩ := Option.bind_eq_some_iff.mp q
        obtain ⟨v, rfl, r1⟩ := rbl1 r
        obtain ⟨a, us, rfl, hv, l⟩ := lstOf_rep hr q1 r1
        rw [intsOf_eq q2] at l
        rw [l.ints] at hv
        refine .inr (.inr ⟨a, ns, rfl, SqL.of hv, ?_, fun m' h1 h2 => ?_⟩)
        · cases ns with
          | nil => cases e
          | cons => simp
        · rw [minL_of e h1 h2]
          exact p.fin hr r_int
      · exact p.elim
    · exact p.elim
  · exact p.elim
theorem cs_max (hK : X.K = b.K) (hc : X.calm = true) : CallS X b (.builtin "max") maxF := by
  refine cs_of ((call_max2 hc).or ((call_max3Nu hc).or (cr_max hc))) fun W Q vs w h ts hr r p => ?_
  unfold maxF at p
  split at p
  · rename_i i j
    obtain ⟨v, x, rfl, r1, r2⟩ := rbl2 r
    refine .inl ⟨i, j, by rw [rb_int r1, rb_int r2], ?_⟩
    have e : (if j > i then j else i) = max i j := by split <;> omega
    rw [e]
    exact p.fin hr r_int
  · rename_i i j k
    obtain ⟨v, x, y, rfl, r1, r2, r3⟩ := rbl3 r
    rw [rb_int r1, rb_int r2, rb_int r3]
    refine .inr (.inl ⟨_, _, _, .int (max (max i j) k), rfl, ?_, p.fin hr r_int⟩)
    have e : ∀ a c : Int, nuMax2 (.int a) (.int c) = some (.int (max a c)) := fun a c => by
      show some (if decide (a < c) = true then V.int c else V.int a) = _
      by_cases q : a < c
      · rw [if_pos (decide_eq_true q)]; congr 2; omega
      · rw [if_neg (by simpa using q)]; congr 2; omega
    unfold nuMax3
    rw [e]
    exact e _ _
  · split at p
    · rename_i ns q
      split at p
      · rename_i m e
        obtain ⟨xs, q1, q2⟩ := Option.bind_eq_some_iff.mp q
        obtain ⟨v, rfl, r1⟩ := rbl1 r
        obtain ⟨a, us, rfl, hv, l⟩ := lstOf_rep hr q1 r1
        rw [intsOf_eq q2] at l
        rw [l.ints] at hv
        refine .inr (.inr ⟨a, ns, rfl, SqL.of hv, ?_, fun m' h1 h2 => ?_⟩)
        · cases ns with
          | nil => cases e
          | cons => simp
        · rw [maxL_of e h1 h2]
          exact p.fin hr r_int
      · exact p.elim
    · exact p.elim
  · exact p.elim
end
end Y
/-! Y5: isinstance, slices, dicts, what is walked, targets, comprehensions. -/
namespace Y
open PySem L2 PySem.Spec PyProof.Rows

/-! ### isinstance of a built-in type -/
inductive Ty where
  | int | bool | str | tuple | list
inductive Kd where
  | non | bl | int | str | tup | lst
def Ty.nm : Ty → String
  | .int => "int" | .bool => "bool" | .str => "str" | .tuple => "tuple" | .list => "list"
def Kd.nm : Kd → String
  | .non => "NoneType" | .bl => "bool" | .int => "int" | .str => "str" | .tup => "tuple" | .lst => "list"
def Kd.is : Kd → Ty → Bool
  | .bl, .bool => true | .bl, .int => true | .int, .int => true | .str, .str => true | .tup, .tuple => true | .lst, .list => true
  | _, _ => false
theorem kd_is (k : Kd) (t : Ty) : kitB k.nm t.nm = some (k.is t) := by cases k <;> cases t <;> decide +kernel
def kdOf (h : Hs) : T → Option Kd
  | .non => some .non
  | .bl _ => some .bl
  | .int _ => some .int
  | .str _ => some .str
  | .tup _ => some .tup
  | .lst _ => some .lst
  | .ref n => match h[n]? with
    | some (.lst _) => some .lst
    | _ => none
  | _ => none
theorem kdOf_rep {b : Tb} {w : Wd} {h : Hs} (hr : HR b w h) {t : T} {v : V} {k : Kd} (e : kdOf h t = some k) (r : RepB b w t v) : TyX b.K w.H v (.type k.nm) := by
  have go : ∀ {xs}, lstOf h t = some xs → TyX b.K w.H v (.type "list") := fun {xs} e => by
    obtain ⟨a, vs, rfl, h1, h2⟩ := lstOf_rep hr e r
    exact .base (.lst h1)
  cases t with
  | non => cases e; rw [rb_non r]; exact .base .non
  | bl c => cases e; rw [rb_bl r]; exact .base (.bl _)
  | int c => cases e; rw [rb_int r]; exact .base (.int _)
  | str c => cases e; rw [rb_str r]; exact .base (.str _)
  | tup xs =>
    cases e
    have r : Rep b w (.tup xs) v := r
    unfold Rep at r
    obtain ⟨a, vs, rfl, h1, _, h2⟩ := r
    rcases h1 with (h1 | ⟨o, h1⟩) | ⟨o, its, n, h1, h2, _⟩
    · exact .base (.tup h1)
    · exact .fTuple h1
    · exact .kTuple h1 h2
  | lst xs => cases e; exact go rfl
  | ref n =>
    have e' : (match h[n]? with
      | some (.lst _) => some Kd.lst
      | _ => none) = some k := e
    split at e'
    · rename_i xs q
      cases e'
      exact go (xs := xs) (by show (match h[n]? with | some (.lst xs) => some xs | _ => none) = _; rw [q])
    · cases e'
  | _ => cases e
def isTM (ty : Ty) (m : EM) : EM := fun e h => (m e h).bind fun t h1 => match kdOf h1 t with
  | some k => .ok (.bl (k.is ty)) h1
  | none => .bad
section
variable {X : Cx} {F : Fr} {pos p q : PySem.Pos} {a c e : Expr} {es : List Expr} {ma mb : EM} {am : AM}
theorem s_isT (ty : Ty) {x y : Str} (hK : X.K = F.b.K) (hg : Gl X x) (hm : X.mg x = none) (hv : bootBuiltins x = some (.builtin "isinstance")) (hgT : Gl X y) (hmT : X.mg y = none) (hvT : bootBuiltins y = some (.type ty.nm))
    (ha : PE X a (tB F ma)) (hn : x ≠ "__name__" := by decide) (hdb : (x == ("__debug__" : Str)) = false := by decide) (hn2 : y ≠ "__name__" := by decide) (hdb2 : (y == ("__debug__" : Str)) = false := by decide)
    (he : starEach [a, .Name y q] X.env = (false, eval a X.env) :: starEach [.Name y q] X.env := by rfl) : PE X (.Call (.Name x p) [a, .Name y q] [] pos) (tE F (isTM ty ma)) := by
  refine wkE (pe_callB call_isi hg hm hv (pa_cons ha (pa_cons (pe_bltn (v := .ty ty.nm) hgT hmT hvT rfl hn2 hdb2) pa_nil) he) hn hdb he rfl) fun σ H Q z => ?_
  refine tG.mono (tG.bind (R := RepB F.b) z) ?_
  rintro x H1 ⟨w1, e, h1, tx, rfl, sr1, hr1, r1, p1⟩
  split at p1
  · rename_i k e
    have ty' := kdOf_rep hr1 e r1
    rw [← hK] at ty'
    exact ⟨x, .ty ty.nm, _, _, k.is ty, rfl, .ty _, ty', kit_ty (kd_is k ty), p1.fin hr1 r_bl⟩
  · exact p1.elim

/-! ### slices -/
def cutT {α : Type} (xs : List α) (lo hi : Option Int) : List α := (xs.drop (HT.sIx xs.length 0 lo)).take (HT.sIx xs.length xs.length hi - HT.sIx xs.length 0 lo)
theorem cut_rep {b : Tb} {w : Wd} {xs : List T} {vs : List V} (r : RepL b w xs vs) (lo hi : Option Int) : RepL b w (cutT xs lo hi) (cutV vs lo hi) := by
  unfold cutT cutV
  rw [r.len]
  exact (r.drop _).take _
abbrev OM := En → Hs → Res (Option Int)
def onone : OM := fun _ h => .ok none h
def osome (m : EM) : OM := fun e h => (m e h).bind fun t h1 => match t with
  | .int i => .ok (some i) h1
  | _ => .bad
abbrev tO (F : Fr) (m : OM) : TO := tG F (fun _ (x k : Option Int) => x = k) m
theorem wkO {e : Option Expr} {t t' : TO} (h : PO X e t) (i : ∀ σ H Q, t' σ H Q → t σ H Q) : PO X e t' := ⟨fun pins s σ H Q I hw => h.run pins s σ H Q I (i σ H Q hw)⟩
theorem o_none : PO X none (tO F onone) := by
  refine wkO po_none ?_
  rintro σ H Q ⟨w, en, h, rfl, sr, hr, p⟩
  exact p.fin hr rfl
theorem o_some (h : PE X a (tB F ma)) : PO X (some a) (tO F (osome ma)) := by
  refine wkO (po_some h) fun σ H Q p => ?_
  refine tG.mono (tG.bind (R := RepB F.b) p) ?_
  rintro x H1 ⟨w1, e, h1, tx, rfl, sr1, hr1, r1, p1⟩
  cases tx with
  | int i => exact ⟨i, rb_int r1, Po.fin p1 hr1 rfl⟩
  | _ => exact (show False from p1).elim
/-- a list, or the script -/
def sqlOf (h : Hs) : T → Option (List T)
  | .scr ns => some (ns.map T.int)
  | t => lstOf h t
theorem sqlOf_rep {b : Tb} {w : Wd} {h : Hs} (hr : HR b w h) {t : T} {v : V} {xs : List T} (e : sqlOf h t = some xs) (r : RepB b w t v) : ∃ a vs, v = .ref a ∧ SqL b.K w.H a vs ∧ RepL b w xs vs := by
  by_cases sc : ∃ ns, t = .scr ns
  · obtain ⟨ns, rfl⟩ := sc
    cases e
    have r : Rep b w (.scr ns) v := r
    unfold Rep at r
    obtain ⟨a, q, h1⟩ := r
    refine ⟨a, ns.map V.int, q, ?_, RepL.map (fun i => by unfold Rep; rfl) ns⟩
    rcases h1 with ⟨o, h1⟩ | h1
    · exact .inl (.inr ⟨o, h1⟩)
    · exact h1 _
  · have e' : lstOf h t = some xs := by
      cases t with
      | scr ns => exact absurd ⟨ns, rfl⟩ sc
      | _ => exact e
    obtain ⟨a, vs, q, h1, h2⟩ := lstOf_rep hr e' r
    exact ⟨a, vs, q, SqL.of h1, h2⟩
def sliceM (ma : EM) (lo hi : OM) : EM := fun e h => (ma e h).bind fun t h1 => (lo e h1).bind fun l h2 => (hi e h2).bind fun u h3 => match sqlOf h3 t with
  | some xs => .ok (.lst (cutT xs l u)) h3
  | none => .bad
theorem s_slice {lo hi : Option Expr} {ml mh : OM} {p2 : PySem.Pos} (hK : X.K = F.b.K) (ha : PE X a (tB F ma)) (hl : PO X lo (tO F ml)) (hh : PO X hi (tO F mh)) : PE X (.Subscript a (.Slice lo hi none p2) pos) (tE F (sliceM ma ml mh)) := by
  refine wkE (pe_slice sl_list ha hl hh) fun σ H Q z => ?_
  refine tG.mono (tG.bind (R := RepB F.b) z) ?_
  rintro x H1 ⟨w1, e, h1, tx, rfl, sr1, hr1, r1, p1⟩
  refine ⟨w1, e, h1, rfl, sr1, hr1, Po.mono (Po.bind (R := fun _ (x k : Option Int) => x = k) p1) ?_⟩
  rintro l H2 ⟨w2, h2, _, rfl, es, hr2, rfl, p2⟩
  have sr2 := sr1.kp es (hr1.kp es)
  refine ⟨w2, e, h2, rfl, sr2, hr2, Po.mono (Po.bind (R := fun _ (x k : Option Int) => x = k) p2) ?_⟩
  rintro u H3 ⟨w3, h3, _, rfl, es3, hr3, rfl, p3⟩
  split at p3
  · rename_i xs q
    obtain ⟨a, vs, rfl, hv, l⟩ := sqlOf_rep hr3 q ((r1.es es (hr1.kp es)).es es3 (hr2.kp es3))
    exact ⟨a, vs, rfl, hK ▸ hv, fun p' n => Po.newLst p3 hr3 (cut_rep l _ _) n⟩
  · exact p3.elim
def revM (ma : EM) : EM := fun e h => (ma e h).bind fun t h1 => match lstOf h1 t with
  | some xs => .ok (.lst xs.reverse) h1
  | none => .bad
theorem s_rev {k : Nat} {p1 p2 p3 : PySem.Pos} (ha : PE X a (tB F ma)) : PE X (.Subscript a (.Slice none none (some (.UnaryOp .USub (.Constant (.int 1) k p1) p2)) p3) pos) (tE F (revM ma)) := by
  refine wkE (pe_revL ha) fun σ H Q z => ?_
  refine tG.mono (tG.bind (R := RepB F.b) z) ?_
  rintro x H1 ⟨w1, e, h1, tx, rfl, sr1, hr1, r1, p1⟩
  split at p1
  · rename_i xs q
    obtain ⟨a, vs, rfl, hv, l⟩ := lstOf_rep hr1 q r1
    exact ⟨a, vs, rfl, SqL.of hv, fun p' n => Po.newLst p1 hr1 l.rev n⟩
  · exact p1.elim
def negM (ma : EM) : EM := fun e h => (ma e h).bind fun t h1 => match t with
  | .int i => .ok (.int (-i)) h1
  | _ => .bad
theorem s_neg (ha : PE X a (tB F ma)) : PE X (.UnaryOp .USub a pos) (tE F (negM ma)) := by
  refine wkE (pe_un un_neg ha) fun σ H Q z => ?_
  refine tG.mono (tG.bind (R := RepB F.b) z) ?_
  rintro x H1 ⟨w1, e, h1, tx, rfl, sr1, hr1, r1, p1⟩
  cases tx with
  | int i => exact ⟨i, rb_int r1, Po.fin p1 hr1 r_int⟩
  | _ => exact (show False from p1).elim

/-! ### dicts -/
def keyT : Key → T
  | .inl i => .int i
  | .inr s => .str s
def keyOf : T → Option Key
  | .int i => some (.inl i)
  | .str s => some (.inr s)
  | _ => none
def keysOf : List T → Option (List Key)
  | [] => some []
  | x :: xs => match keyOf x, keysOf xs with
    | some k, some ks => some (k :: ks)
    | _, _ => none
def tkeyOf : T → Option (List Key)
  | .tup (x :: xs) => keysOf (x :: xs)
  | _ => none
theorem keyOf_rep {b : Tb} {w : Wd} {t : T} {v : V} {k : Key} (e : keyOf t = some k) (r : RepB b w t v) : v = kV k := by
  cases t with
  | int i => cases e; exact rb_int r
  | str s => cases e; exact rb_str r
  | _ => cases e
theorem keysOf_rep {b : Tb} {w : Wd} : ∀ {ts : List T} {vs : List V} {ks : List Key}, keysOf ts = some ks → RepL b w ts vs → vs = ks.map kV
  | [], vs, ks, e, r => by
    cases e
    unfold RepL at r
    exact r
  | x :: xs, vs, ks, e, r => by
    obtain ⟨v, us, rfl, h1, h2⟩ := r.uncons
    unfold keysOf at e
    split at e
    · rename_i k ks' q1 q2
      cases e
      rw [keysOf_rep q2 h2]
      have : v = kV k := by
        cases x with
        | int i => cases q1; unfold Rep at h1; exact h1
        | str s => cases q1; unfold Rep at h1; exact h1
        | _ => cases q1
      rw [this]
      rfl
    · cases e
theorem tkeyOf_rep {b : Tb} {w : Wd} {t : T} {v : V} {k : List Key} (e : tkeyOf t = some k) (r : RepB b w t v) : ∃ a, v = .ref a ∧ w.H a = some (.tup (k.map kV)) := by
  cases t with
  | tup xs =>
    cases xs with
    | nil => cases e
    | cons x xs =>
      have r : Rep b w (.tup (x :: xs)) v := r
      unfold Rep at r
      obtain ⟨a, vs, rfl, _, h1, h2⟩ := r
      refine ⟨a, rfl, ?_⟩
      rw [h1 (by simp), keysOf_rep e h2]
  | _ => cases e
theorem keyT_rep {b : Tb} {w : Wd} (k : Key) : Rep b w (keyT k) (kV k) := by
  cases k with
  | inl i => exact r_int
  | inr s => exact r_str
theorem tkey_rep {b : Tb} {w : Wd} {k : List Key} {a : Addr} (h : w.H a = some (.tup (k.map kV))) : Rep b w (.tup (k.map keyT)) (.ref a) := by
  unfold Rep
  exact ⟨a, k.map kV, rfl, SqT.of h, fun _ => h, RepL.map keyT_rep k⟩
/-- the value at a key -/
def lookT {κ : Type} [DecidableEq κ] (ks : List κ) (ts : List T) (k : κ) : Option T := ((ks.zip ts).find? fun p => decide (p.1 = k)).map (·.2)
def OR (b : Tb) (w : Wd) : Option T → Option V → Prop
  | some t, ov => ∃ v, ov = some v ∧ Rep b w t v
  | none, ov => ov = none
theorem lookT_rep {κ : Type} [DecidableEq κ] {b : Tb} {w : Wd} {k : κ} : ∀ {kvs : List (κ × V)} {ts : List T}, RepL b w ts (kvs.map (·.2)) →
    OR b w (lookT (kvs.map (·.1)) ts k) (valV kvs k)
  | [], ts, r => by simp [lookT, valV_nil, OR]
  | p :: kvs, [], r => by
    unfold RepL at r
    cases r
  | p :: kvs, t :: ts, r => by
    obtain ⟨v, us, e, h1, h2⟩ := r.uncons
    rw [List.map_cons] at e
    cases e
    have ih := lookT_rep (k := k) h2
    unfold lookT at ih ⊢
    rw [List.map_cons, List.zip_cons_cons, List.find?_cons]
    by_cases q : p.1 = k
    · rw [decide_eq_true q]
      exact ⟨p.2, valV_pos q, h1⟩
    · rw [decide_eq_false q]
      dsimp only
      rw [valV_neg q]
      exact ih
/-- a dict: a tree, an object of a frame's own or of the heap -/
def dcOf (h : Hs) : T → Option T
  | .dk ks ts => some (.dk ks ts)
  | .dt ks ts => some (.dt ks ts)
  | .ref n => match h[n]? with
    | some (.dk ks ts) => some (.dk ks ts)
    | some (.dt ks ts) => some (.dt ks ts)
    | _ => none
  | _ => none
def RepD (b : Tb) (w : Wd) (t : T) (v : V) : Prop := match t with
  | .dk ks ts => ∃ a kvs, v = .ref a ∧ Rd w.H a (.dK kvs) ∧ kvs.map (·.1) = ks ∧ RepL b w ts (kvs.map (·.2))
  | .dt ks ts => ∃ a kvs, v = .ref a ∧ Rd w.H a (.dT kvs) ∧ kvs.map (·.1) = ks ∧ RepL b w ts (kvs.map (·.2))
  | _ => False
theorem dcOf_rep {b : Tb} {w : Wd} {h : Hs} (hr : HR b w h) {t d : T} {v : V} (e : dcOf h t = some d) (r : RepB b w t v) : RepD b w d v := by
  cases t with
  | dk ks ts => cases e; obtain ⟨a, kvs, rfl, h1, _, h2, h3⟩ := r; exact ⟨a, kvs, rfl, h1, h2, h3⟩
  | dt ks ts => cases e; obtain ⟨a, kvs, rfl, h1, _, h2, h3⟩ := r; exact ⟨a, kvs, rfl, h1, h2, h3⟩
  | ref n =>
    have r : Rep b w (.ref n) v := r
    unfold Rep at r
    obtain ⟨a, rfl, h1⟩ := r
    have e' : (match h[n]? with
      | some (.dk ks ts) => some (T.dk ks ts)
      | some (.dt ks ts) => some (T.dt ks ts)
      | _ => none) = some d := e
    split at e'
    · rename_i ks ts q
      cases e'
      obtain ⟨a', o, g1, g2, g3⟩ := hr.ob n _ q
      rw [h1] at g1
      cases g1
      obtain ⟨kvs, rfl, g3, g4⟩ := g3
      exact ⟨a, kvs, rfl, .inl g2, g3, g4⟩
    · rename_i ks ts q
      cases e'
      obtain ⟨a', o, g1, g2, g3⟩ := hr.ob n _ q
      rw [h1] at g1
      cases g1
      obtain ⟨kvs, rfl, g3, g4⟩ := g3
      exact ⟨a, kvs, rfl, .inl g2, g3, g4⟩
    · cases e'
  | _ => cases e
/-- d at a key: none: no such key is asked; some none: it is not there -/
def dAt (h : Hs) (x y : T) : Option (Option T) := match dcOf h x with
  | some (.dk ks ts) => (keyOf y).map fun k => lookT ks ts k
  | some (.dt ks ts) => (tkeyOf y).map fun k => lookT ks ts k
  | _ => none
theorem dAt_rep {b : Tb} {w : Wd} {h : Hs} (hr : HR b w h) {x y : T} {vx vy : V} {o : Option T} (e : dAt h x y = some o) (r1 : RepB b w x vx) (r2 : RepB b w y vy) :
    ∃ a ov, vx = .ref a ∧ DGet w.H a vy ov ∧ OR b w o ov := by
  unfold dAt at e
  split at e
  · rename_i ks ts q
    obtain ⟨a, kvs, rfl, h1, rfl, h3⟩ := dcOf_rep hr q r1
    obtain ⟨k, q2, rfl⟩ := Option.map_eq_some_iff.mp e
    refine ⟨a, valV kvs k, rfl, .inl ⟨kvs, k, h1, keyOf_rep q2 r2, rfl⟩, ?_⟩
    exact lookT_rep h3
  · rename_i ks ts q
    obtain ⟨a, kvs, rfl, h1, rfl, h3⟩ := dcOf_rep hr q r1
    obtain ⟨k, q2, rfl⟩ := Option.map_eq_some_iff.mp e
    obtain ⟨c, rfl, h4⟩ := tkeyOf_rep q2 r2
    refine ⟨a, valV kvs k, rfl, .inr ⟨kvs, k, c, h1, rfl, h4, rfl⟩, ?_⟩
    exact lookT_rep h3
  · cases e
def dgetF (x y : T) (h : Hs) : Res T := match dAt h x y with
  | some (some t) => .ok t h
  | _ => .bad
def dinF (y x : T) (h : Hs) : Res T := match dAt h x y with
  | some o => .ok (.bl o.isSome) h
  | _ => .bad
def dninF (y x : T) (h : Hs) : Res T := match dAt h x y with
  | some o => .ok (.bl !o.isSome) h
  | _ => .bad
theorem s_dget {k : Nat} (hr : Room k X.A) (ha : PE X a (tB F ma)) (hb : PE X c (tB F mb)) (hs : NoSl c := by intro _ _; rfl) : PE X (.Subscript a c pos) (tE F (opM dgetF ma mb)) := by
  refine wkE (pe_dget (hu_of hr) ha hb hs) fun σ H Q z => ?_
  refine tG.mono (tG.bind (R := RepB F.b) z) ?_
  rintro x H1 ⟨w1, e, h1, tx, rfl, sr1, hr1, r1, p1⟩
  refine ⟨w1, e, h1, rfl, sr1, hr1, Po.mono (Po.bind (R := RepB F.b) p1) ?_⟩
  rintro y H2 ⟨w2, h2, ty, rfl, es, hr2, r2, p2⟩
  unfold dgetF at p2
  split at p2
  · rename_i t q
    obtain ⟨a, ov, rfl, h3, v, rfl, rv⟩ := dAt_rep hr2 q (r1.es es (hr1.kp es)) r2
    exact ⟨a, v, rfl, h3, p2.fin hr2 rv⟩
  · exact p2.elim
theorem dat_isSome {b : Tb} {w : Wd} {o : Option T} {ov : Option V} (h : OR b w o ov) : ov.isSome = o.isSome := by
  cases o with
  | none => rw [show ov = none from h]; rfl
  | some t => obtain ⟨v, rfl, _⟩ := h; rfl
theorem s_din {k : Nat} (hr : Room k X.A) (hb : PE X c (tB F mb)) (ha : PE X a (tB F ma)) (hm : behindInMarks .In a = false := by rfl) : PE X (.Compare c [.In] [a] pos) (tE F (opM dinF mb ma)) := by
  refine wkE (pe_cmp (pc_din (hu_of hr) hb ha) hm) fun σ H Q z => ?_
  refine tG.mono (tG.bind (R := RepB F.b) z) ?_
  rintro y H1 ⟨w1, e, h1, ty, rfl, sr1, hr1, r1, p1⟩
  refine ⟨w1, e, h1, rfl, sr1, hr1, Po.mono (Po.bind (R := RepB F.b) p1) ?_⟩
  rintro x H2 ⟨w2, h2, tx, rfl, es, hr2, r2, p2⟩
  unfold dinF at p2
  split at p2
  · rename_i o q
    obtain ⟨a, ov, rfl, h3, h4⟩ := dAt_rep hr2 q r2 (r1.es es (hr1.kp es))
    refine ⟨a, ov, rfl, h3, ?_⟩
    rw [dat_isSome h4]
    exact p2.fin hr2 r_bl
  · exact p2.elim
theorem s_dnin {k : Nat} (hr : Room k X.A) (hb : PE X c (tB F mb)) (ha : PE X a (tB F ma)) (hm : behindInMarks .NotIn a = false := by rfl) : PE X (.Compare c [.NotIn] [a] pos) (tE F (opM dninF mb ma)) := by
  refine wkE (pe_cmp (pc_dnotin (hu_of hr) hb ha) hm) fun σ H Q z => ?_
  refine tG.mono (tG.bind (R := RepB F.b) z) ?_
  rintro y H1 ⟨w1, e, h1, ty, rfl, sr1, hr1, r1, p1⟩
  refine ⟨w1, e, h1, rfl, sr1, hr1, Po.mono (Po.bind (R := RepB F.b) p1) ?_⟩
  rintro x H2 ⟨w2, h2, tx, rfl, es, hr2, r2, p2⟩
  unfold dninF at p2
  split at p2
  · rename_i o q
    obtain ⟨a, ov, rfl, h3, h4⟩ := dAt_rep hr2 q r2 (r1.es es (hr1.kp es))
    refine ⟨a, ov, rfl, h3, ?_⟩
    rw [dat_isSome h4]
    exact p2.fin hr2 r_bl
  · exact p2.elim
theorem st_of {m : EM} (h : PC X .In a c (tE F m)) (hm : behindInMarks .In c = false := by rfl) : PT X (.Compare a [.In] [c] pos) (tT F (tst m)) := wkT (pt_cmp h hm) fun _ _ _ p => t_tst p

/-! ### what is walked -/
abbrev Rdr := Hs → Option (List T)
abbrev SrcM := En → Hs → Res Rdr
/-- the iterator J yields what rd reads, wherever trees are kept -/
def Wk (b : Tb) (J : It) (w : Wd) (rd : Rdr) : Prop := ∀ w2 h2, Kp w w2 → HR b w2 h2 → ∀ ys, rd h2 = some ys → ∀ i,
  (i < ys.length → J.go i w2.H ∧ ∀ x H', J.yld i w2.H x H' → ∃ w3, w3.H = H' ∧ Es w2 w3 ∧ HR b w3 h2 ∧ ∃ t, ys[i]? = some t ∧ Rep b w3 t x) ∧ (ys.length ≤ i → J.stop i w2.H)
def tI (F : Fr) (m : SrcM) : TI := fun σ H R => tG F (fun w rd J => Wk F.b J w rd) m σ H R
/-- over a list, a tuple: a tree's or one of the heap -/
def seqSrc (m : EM) : SrcM := fun e h => (m e h).bind fun t h1 => match seqOf h1 t with
  | some _ => .ok (fun h' => seqOf h' t) h1
  | none => .bad
def iSeq (K : PySem.W.Frag) (tl : TE) : TI := fun σ H R => tl σ H fun x H1 => ∃ a, x = .ref a ∧ (((∃ xs, SqL K H1 a xs) ∧ R (Itl K a) H1) ∨ ((∃ xs, SqT K H1 a xs) ∧ R (Itt K a) H1))
theorem pi_seq {l tg : Expr} {tl : TE} (hl : PE X l tl) : PI X tg l (iSeq X.K tl) := by
  refine ⟨fun pins s σ H R I h => ?_⟩
  refine thn (hl.run pins s σ H _ I h) fun v s1 ⟨x, H1, I1, r1, q1⟩ => ?_
  obtain ⟨a, e, q1⟩ := q1
  subst e
  cases r1
  rcases q1 with ⟨⟨xs, hq⟩, q⟩ | ⟨⟨xs, hq⟩, q⟩
  · obtain ⟨its, rv, p, hz⟩ := I1.list hq
    refine wpAny_pyIter_list p.isList ?_
    refine ⟨s1.heap.objs.size, [s1.heap.objs.size], _, _, H1, rfl, I1.kept (t' := s1.toks) fun b o e => Heap.get?_push_of_some _ e, turn_list a _, ⟨_, Heap.get?_push_size _ rfl, rfl, rfl⟩, fun b hb => ?_, q⟩
    have e : b = s1.heap.objs.size := by simpa using hb
    subst e
    exact I1.fpOk (Nat.le_refl _) (I1.hok.fresh (Nat.le_refl _))
  · obtain ⟨its, rv, p, hz⟩ := I1.tuple hq
    refine wpAny_pyIter_tuple (show s1.heap.IsTuple a its.toArray from p) ?_
    refine ⟨s1.heap.objs.size, [s1.heap.objs.size], _, _, H1, rfl, I1.kept (t' := s1.toks) fun b o e => Heap.get?_push_of_some _ e, turn_tuple a _, ⟨_, Heap.get?_push_size _ rfl, rfl, rfl⟩, fun b hb => ?_, q⟩
    have e : b = s1.heap.objs.size := by simpa using hb
    subst e
    exact I1.fpOk (Nat.le_refl _) (I1.hok.fresh (Nat.le_refl _))
theorem wkI {tg iter : Expr} {t t' : TI} (h : PI X tg iter t) (i : ∀ σ H R, t' σ H R → t σ H R) : PI X tg iter t' := ⟨fun pins s σ H R I hw => h.run pins s σ H R I (i σ H R hw)⟩
end
end Y
/-! Y6: sources of walks, targets, comprehensions. -/
namespace Y
open PySem L2

section
variable {X : Cx} {F : Fr} {pos p q : PySem.Pos} {a c e tg : Expr} {es : List Expr} {ma mb : EM} {am : AM}
theorem lst_in {w : Wd} {h : Hs} {b : Tb} (hr : HR b w h) {t : T} {v : V} {a : Addr} (nt : ∀ xs, t ≠ .tup xs) (r : Rep b w t v) (ev : v = .ref a) {ys : List T} (e : seqOf h t = some ys) : ∃ vs, SqL b.K w.H a vs ∧ RepL b w ys vs := by
  by_cases sc : ∃ ns, t = .scr ns
  · obtain ⟨ns, rfl⟩ := sc
    cases e
    unfold Rep at r
    obtain ⟨a', q, h1⟩ := r
    rw [ev] at q
    cases q
    refine ⟨ns.map V.int, ?_, RepL.map (fun i => by unfold Rep; rfl) ns⟩
    rcases h1 with ⟨o, h1⟩ | h1
    · exact .inl (.inr ⟨o, h1⟩)
    · exact h1 _
  · have e' : lstOf h t = some ys := by
      cases t with
      | tup xs => exact absurd rfl (nt xs)
      | scr ns => exact absurd ⟨ns, rfl⟩ sc
      | _ => exact e
    obtain ⟨a', vs, q, h1, h2⟩ := lstOf_rep hr e' (r.b hr)
    rw [ev] at q
    cases q
    exact ⟨vs, SqL.of h1, h2⟩
theorem wk_seq {b : Tb} {K : PySem.W.Frag} (hK : K = b.K) {w : Wd} {h : Hs} (hr : HR b w h) {t : T} {v : V} (r : Rep b w t v) {xs : List T} (e : seqOf h t = some xs) :
    ∃ a, v = .ref a ∧ (((∃ xs, SqL K w.H a xs) ∧ Wk b (Itl K a) w fun h' => seqOf h' t) ∨ ((∃ xs, SqT K w.H a xs) ∧ Wk b (Itt K a) w fun h' => seqOf h' t)) := by
  by_cases nt : ∃ xs, t = .tup xs
  · obtain ⟨ts, rfl⟩ := nt
    have r0 := r
    unfold Rep at r
    obtain ⟨a, vs, rfl, h1, _, h2⟩ := r
    refine ⟨a, rfl, .inr ⟨⟨vs, hK ▸ h1⟩, fun w2 h2' k hr2 ys ey i => ?_⟩⟩
    have r2 := r0.kp k
    unfold Rep at r2
    obtain ⟨a', us, q, g1, _, g2⟩ := r2
    cases q
    cases ey
    rw [← hK] at g1
    refine ⟨fun hi => ?_, fun hi => ⟨us, g1, by rw [g2.len]; exact hi⟩⟩
    obtain ⟨u, hu, ru⟩ := g2.get (List.getElem?_eq_getElem hi)
    refine ⟨⟨us, u, g1, hu⟩, fun x H' y => ?_⟩
    obtain ⟨rfl, y⟩ := y
    rw [y us g1] at hu
    cases hu
    exact ⟨w2, rfl, Ev.refl, hr2, _, List.getElem?_eq_getElem hi, ru⟩
  · have nt' : ∀ xs, t ≠ .tup xs := fun xs q => nt ⟨xs, q⟩
    obtain ⟨a, _, rfl, _, _⟩ := seqOf_rep hr e (r.b hr)
    obtain ⟨vs, h1, h2⟩ := lst_in hr nt' r rfl e
    refine ⟨a, rfl, .inl ⟨⟨vs, hK ▸ h1⟩, fun w2 h2' k hr2 ys ey i => ?_⟩⟩
    obtain ⟨us, g1, g2⟩ := lst_in hr2 nt' (r.kp k) rfl ey
    rw [← hK] at g1
    refine ⟨fun hi => ?_, fun hi => ⟨us, g1, by rw [g2.len]; exact hi⟩⟩
    obtain ⟨u, hu, ru⟩ := g2.get (List.getElem?_eq_getElem hi)
    refine ⟨⟨us, u, g1, hu⟩, fun x H' y => ?_⟩
    obtain ⟨rfl, y⟩ := y
    rw [y us g1] at hu
    cases hu
    exact ⟨w2, rfl, Ev.refl, hr2, _, List.getElem?_eq_getElem hi, ru⟩
theorem i_seq (hK : X.K = F.b.K) (ha : PE X a (tE F ma)) : PI X tg a (tI F (seqSrc ma)) := by
  refine wkI (pi_seq ha) fun σ H R z => ?_
  refine tG.mono (tG.bind (R := Rep F.b) z) ?_
  rintro x H1 ⟨w1, e, h1, t, rfl, sr1, hr1, r1, p1⟩
  split at p1
  · rename_i xs q
    obtain ⟨a, rfl, h⟩ := wk_seq hK hr1 r1 q
    rcases h with ⟨h2, h3⟩ | ⟨h2, h3⟩
    · exact ⟨a, rfl, .inl ⟨h2, p1.fin hr1 h3⟩⟩
    · exact ⟨a, rfl, .inr ⟨h2, p1.fin hr1 h3⟩⟩
  · exact p1.elim
/-- whole numbers from lo on -/
def rngL (lo : Int) (n : Nat) : List T := (List.range n).map fun (i : Nat) => T.int (lo + i)
def big62 (i : Int) : Bool := decide (-(2 ^ 62) ≤ i) && decide (i < 2 ^ 62)
theorem wk_rng {b : Tb} {w : Wd} (lo : Int) (n : Nat) : Wk b (Itr lo n) w fun _ => some (rngL lo n) := by
  intro w2 h2 k hr2 ys ey i
  cases ey
  have hl : (rngL lo n).length = n := by unfold rngL; simp
  rw [hl]
  refine ⟨fun hi => ⟨hi, fun x H' y => ?_⟩, fun hi => hi⟩
  obtain ⟨rfl, rfl⟩ := y
  refine ⟨w2, rfl, Ev.refl, hr2, .int (lo + i), ?_, r_int⟩
  unfold rngL
  rw [List.getElem?_map, List.getElem?_range hi]
  rfl
def rng1Src (m : EM) : SrcM := fun e h => (m e h).bind fun t h1 => match t with
  | .int n => if big62 n then .ok (fun _ => some (rngL 0 n.toNat)) h1 else .bad
  | _ => .bad
def rng2Src (m m' : EM) : SrcM := fun e h => (m e h).bind fun t h1 => (m' e h1).bind fun u h2 => match t, u with
  | .int i, .int j => if big62 i && big62 j then .ok (fun _ => some (rngL i (j - i).toNat)) h2 else .bad
  | _, _ => .bad
theorem i_rng1 (hg : Gl X "range") (hm : X.mg "range" = none) (ha : PE X a (tB F ma)) (hs : starEach [a] X.env = [(false, eval a X.env)] := by rfl) : PI X tg (.Call (.Name "range" p) [a] [] pos) (tI F (rng1Src ma)) := by
  refine wkI (pi_range1 hg hm (pa_cons ha pa_nil hs) hs) fun σ H R z => ?_
  refine tG.mono (tG.bind (R := RepB F.b) z) ?_
  rintro x H1 ⟨w1, e, h1, t, rfl, sr1, hr1, r1, p1⟩
  cases t with
  | int n =>
    have p1 : Po F.b (fun w rd J => Wk F.b J w rd) w1 (fun c d H => F.W c d σ H) R (if big62 n then .ok (fun _ => some (rngL 0 n.toNat)) h1 else .bad) := p1
    split at p1
    · rename_i hb
      unfold big62 at hb
      rw [Bool.and_eq_true] at hb
      exact ⟨n, by rw [rb_int r1], of_decide_eq_true hb.1, of_decide_eq_true hb.2, p1.fin hr1 (wk_rng 0 _)⟩
    · exact p1.elim
  | _ => exact (show False from p1).elim
theorem i_rng2 (hg : Gl X "range") (hm : X.mg "range" = none) (ha : PE X a (tB F ma)) (hb : PE X c (tB F mb)) (hs : starEach [a, c] X.env = [(false, eval a X.env), (false, eval c X.env)] := by rfl) (hs2 : starEach [c] X.env = [(false, eval c X.env)] := by rfl) :
    PI X tg (.Call (.Name "range" p) [a, c] [] pos) (tI F (rng2Src ma mb)) := by
  refine wkI (pi_range2 hg hm (pa_cons ha (pa_cons hb pa_nil hs2) (by rw [hs, hs2])) hs hs2) fun σ H R z => ?_
  refine tG.mono (tG.bind (R := RepB F.b) z) ?_
  rintro x H1 ⟨w1, e, h1, t, rfl, sr1, hr1, r1, p1⟩
  refine ⟨w1, e, h1, rfl, sr1, hr1, Po.mono (Po.bind (R := RepB F.b) p1) ?_⟩
  rintro y H2 ⟨w2, h2, u, rfl, es, hr2, r2, p2⟩
  split at p2
  · rename_i i j
    split at p2
    · rename_i hb
      unfold big62 at hb
      rw [Bool.and_eq_true, Bool.and_eq_true, Bool.and_eq_true] at hb
      exact ⟨i, j, by rw [rb_int r1, rb_int r2], ⟨of_decide_eq_true hb.1.1, of_decide_eq_true hb.1.2, of_decide_eq_true hb.2.1, of_decide_eq_true hb.2.2⟩, p2.fin hr2 (wk_rng _ _)⟩
    · exact p2.elim
  · exact p2.elim
/-- the keys of a dict that never changes any more -/
def dictSrc (m : EM) : SrcM := fun e h => (m e h).bind fun t h1 => match t with
  | .dk ks _ => .ok (fun _ => some (ks.map keyT)) h1
  | .dt ks _ => .ok (fun _ => some (ks.map fun k => .tup (k.map keyT))) h1
  | _ => .bad
theorem i_dict (ha : PE X a (tE F ma)) : PI X tg a (tI F (dictSrc ma)) := by
  refine wkI (pi_keys ha) fun σ H R z => ?_
  refine tG.mono (tG.bind (R := Rep F.b) z) ?_
  rintro x H1 ⟨w1, e, h1, t, rfl, sr1, hr1, r1, p1⟩
  cases t with
  | dk ks ts =>
    unfold Rep at r1
    obtain ⟨d, o, kvs, rfl, g1, rfl, g2⟩ := r1
    refine ⟨d, o, rfl, .inl ⟨kvs, g1, Po.fin p1 hr1 fun w2 h2 k hr2 ys ey i => ?_⟩⟩
    cases ey
    rw [List.length_map, List.length_map]
    refine ⟨fun hi => ⟨⟨k.frz _ _ _ g1, hi⟩, fun x H' y => ?_⟩, fun hi => ⟨k.frz _ _ _ g1, hi⟩⟩
    obtain ⟨rfl, kk, v, q, rfl⟩ := y
    refine ⟨w2, rfl, Ev.refl, hr2, keyT kk, ?_, keyT_rep kk⟩
    rw [List.getElem?_map, List.getElem?_map, q]
    rfl
  | dt ks ts =>
    unfold Rep at r1
    obtain ⟨d, o, kvs, rfl, g1, rfl, g2⟩ := r1
    refine ⟨d, o, rfl, .inr ⟨kvs, g1, Po.fin p1 hr1 fun w2 h2 k hr2 ys ey i => ?_⟩⟩
    cases ey
    rw [List.length_map, List.length_map]
    refine ⟨fun hi => ⟨⟨k.frz _ _ _ g1, hi⟩, fun x H' y => ?_⟩, fun hi => ⟨k.frz _ _ _ g1, hi⟩⟩
    obtain ⟨rfl, kk, v, q', q, rfl, hq⟩ := y
    refine ⟨w2, rfl, Ev.refl, hr2, .tup (kk.map keyT), ?_, tkey_rep hq⟩
    rw [List.getElem?_map, List.getElem?_map, q]
    rfl
  | _ => exact (show False from p1).elim

/-! ### targets -/
def setV (e : En) (i : Nat) (t : T) : Option En := match e[i]? with
  | some (.io _) => none
  | some _ => some (e.set i (.val t))
  | none => none
theorem SR.set {b : Tb} {w : Wd} {ga : List V} {σ : St} {e : En} {i : Nat} {v : V} {s : Sl} (r : SR b w ga σ e) (h : ∃ s0, e[i]? = some s0) (hs : SlR b w ga i (some v) s)
    (ap : s.mine = true → ∀ j s' a, j ≠ i → e[j]? = some s' → s'.mine = true → σ[j]? = some (some (.ref a)) → v ≠ .ref a) : SR b w ga (σ.set i (some v)) (e.set i s) where
  len := by rw [List.length_set, List.length_set]; exact r.len
  at_ := fun j s' q => by
    obtain ⟨s0, h⟩ := h
    have hi : i < e.length := (List.getElem?_eq_some_iff.mp h).1
    have hi2 : i < σ.length := by rw [r.len]; exact hi
    by_cases ji : j = i
    · subst ji
      rw [List.getElem?_set_self hi] at q
      cases q
      exact ⟨some v, List.getElem?_set_self hi2, hs⟩
    · rw [List.getElem?_set_ne (Ne.symm ji)] at q
      obtain ⟨x, h1, h2⟩ := r.at_ j s' q
      exact ⟨x, by rw [List.getElem?_set_ne (Ne.symm ji)]; exact h1, h2⟩
  apart := fun j k s1 s2 a q1 q2 m1 m2 e1 e2 => by
    obtain ⟨s0, h⟩ := h
    have hi : i < e.length := (List.getElem?_eq_some_iff.mp h).1
    have hi2 : i < σ.length := by rw [r.len]; exact hi
    by_cases ji : j = i
    · by_cases ki : k = i
      · rw [ji, ki]
      · subst ji
        rw [List.getElem?_set_self hi] at q1
        cases q1
        rw [List.getElem?_set_self hi2] at e1
        cases e1
        rw [List.getElem?_set_ne (Ne.symm ki)] at q2 e2
        exact absurd rfl (ap m1 k s2 a ki q2 m2 e2)
    · rw [List.getElem?_set_ne (Ne.symm ji)] at q1 e1
      by_cases ki : k = i
      · subst ki
        rw [List.getElem?_set_self hi] at q2
        cases q2
        rw [List.getElem?_set_self hi2] at e2
        cases e2
        exact absurd rfl (ap m2 j s1 a ji q1 m1 e1)
      · rw [List.getElem?_set_ne (Ne.symm ki)] at q2 e2
        exact r.apart j k s1 s2 a q1 q2 m1 m2 e1 e2
theorem setV_some {e e' : En} {i : Nat} {t : T} (h : setV e i t = some e') : e' = e.set i (.val t) ∧ ∃ s, e[i]? = some s ∧ ∀ u, s ≠ .io u := by
  unfold setV at h
  split at h
  · cases h
  · rename_i s n q
    cases h
    exact ⟨rfl, s, q, fun u z => n u z⟩
  · cases h
theorem SR.setV {b : Tb} {w : Wd} {ga : List V} {σ : St} {e e' : En} {i : Nat} {t : T} {v : V} (r : SR b w ga σ e) (h : setV e i t = some e') (rv : Rep b w t v) : SR b w ga (σ.set i (some v)) e' := by
  obtain ⟨rfl, s, q, _⟩ := setV_some h
  exact r.set ⟨s, q⟩ ⟨v, rfl, rv⟩ fun z => by cases z
/-- a target: its reading g stores into vs what gm says -/
structure GT (F : Fr) (g : TG) (vs : List Nat) (gm : T → Hs → En → Option En) : Prop where
  ok : ∀ (w : Wd) (e : En) (h : Hs) (σ : St) (t : T) (v : V) (e' : En) (Q : St → Hp → Prop), SR F.b w F.ga σ e → HR F.b w h → Rep F.b w t v → gm t h e = some e' →
    (∀ σ', SR F.b w F.ga σ' e' → σ'.length = σ.length → (∀ j, j ∉ vs → σ'[j]? = σ[j]?) → Q σ' w.H) → g v σ w.H Q
  en : ∀ t h e e', gm t h e = some e' → e'.length = e.length ∧ (∀ j, j ∉ vs → e'[j]? = e[j]?) ∧ (∀ j s, j ∈ vs → e'[j]? = some s → s.mine = false) ∧ ∀ j t, j ∈ vs → e[j]? ≠ some (.io t)
def gOne (i : Nat) : T → Hs → En → Option En := fun t _ e => setV e i t
theorem gt_one (i : Nat) : GT F (gName i) [i] (gOne i) where
  ok := fun w e h σ t v e' Q sr hr rv q k => by
    refine k _ (sr.setV q rv) (by simp) fun j hj => ?_
    rw [List.getElem?_set_ne]
    intro z
    exact hj (by simp [z])
  en := fun t h e e' q => by
    obtain ⟨rfl, s, q, n⟩ := setV_some q
    refine ⟨by simp, fun j hj => ?_, fun j s' hj h' => ?_, fun j u hj z => ?_⟩
    · rw [List.getElem?_set_ne]
      intro z
      exact hj (by simp [z])
    · have ji : j = i := by simpa using hj
      subst ji
      rw [List.getElem?_set_self (List.getElem?_eq_some_iff.mp q).1] at h'
      cases h'
      rfl
    · have ji : j = i := by simpa using hj
      subst ji
      rw [q] at z
      exact n u (Option.some.inj z)
def setsV : En → List Nat → List T → Option En
  | e, [], [] => some e
  | e, i :: is, t :: ts => (setV e i t).bind fun e1 => setsV e1 is ts
  | _, _, _ => none
def gNames : List Nat → TGs
  | [] => gNil
  | i :: is => gCons (gName i) (gNames is)
theorem gnames_ok {w : Wd} {b : Tb} {ga : List V} : ∀ (is : List Nat) (e : En) (σ : St) (ts : List T) (vs : List V) (e' : En) (Q : St → Hp → Prop), SR b w ga σ e → RepL b w ts vs → setsV e is ts = some e' →
    (∀ σ', SR b w ga σ' e' → σ'.length = σ.length → (∀ j, j ∉ is → σ'[j]? = σ[j]?) → Q σ' w.H) → gNames is vs σ w.H Q
  | [], e, σ, [], vs, e', Q, sr, r, q, k => by
    cases q
    unfold RepL at r
    exact ⟨r, k σ sr rfl fun _ _ => rfl⟩
  | [], e, σ, t :: ts, vs, e', Q, sr, r, q, k => by cases q
  | i :: is, e, σ, [], vs, e', Q, sr, r, q, k => by cases q
  | i :: is, e, σ, t :: ts, vs, e', Q, sr, r, q, k => by
    obtain ⟨v, us, rfl, h1, h2⟩ := r.uncons
    obtain ⟨e1, q1, q2⟩ := Option.bind_eq_some_iff.mp (show (setV e i t).bind (fun e1 => setsV e1 is ts) = some e' from q)
    refine ⟨v, us, rfl, gnames_ok is e1 _ ts us e' Q (sr.setV q1 h1) h2 q2 fun σ' sr' hl hj => k σ' sr' (by rw [hl]; simp) fun j hn => ?_⟩
    rw [hj j fun z => hn (List.mem_cons_of_mem _ z), List.getElem?_set_ne]
    intro z
    exact hn (by rw [z]; exact List.mem_cons_self)
theorem sets_en : ∀ (is : List Nat) (e : En) (ts : List T) (e' : En), setsV e is ts = some e' → e'.length = e.length ∧ (∀ j, j ∉ is → e'[j]? = e[j]?) ∧ (∀ j s, j ∈ is → e'[j]? = some s → s.mine = false) ∧ ∀ j t, j ∈ is → e[j]? ≠ some (.io t)
  | [], e, [], e', q => by
    cases q
    exact ⟨rfl, fun _ _ => rfl, fun j s h => (nomatch h), fun j t h => (nomatch h)⟩
  | [], e, t :: ts, e', q => by cases q
  | i :: is, e, [], e', q => by cases q
  | i :: is, e, t :: ts, e', q => by
    obtain ⟨e1, q1, q2⟩ := Option.bind_eq_some_iff.mp (show (setV e i t).bind (fun e1 => setsV e1 is ts) = some e' from q)
    obtain ⟨h1, h2, h3, h4⟩ := sets_en is e1 ts e' q2
    obtain ⟨g1, g2, g3, g4⟩ := (gt_one (F := ⟨⟨default, fun _ => 0⟩, [], fun _ _ _ _ => False, ⟨fun _ => False, [], fun _ => none⟩, []⟩) i).en t [] e e1 q1
    refine ⟨h1.trans g1, fun j hn => ?_, fun j s hj h' => ?_, fun j u hj z => ?_⟩
    · rw [h2 j fun z => hn (List.mem_cons_of_mem _ z), g2 j fun z => hn (by rw [List.mem_singleton.mp z]; exact List.mem_cons_self)]
    · by_cases hm : j ∈ is
      · exact h3 j s hm h'
      · rw [h2 j hm] at h'
        rcases List.mem_cons.mp hj with rfl | z
        · exact g3 j s (List.mem_singleton.mpr rfl) h'
        · exact absurd z hm
    · by_cases ji : j = i
      · exact g4 j u (by rw [ji]; exact List.mem_singleton.mpr rfl) z
      · rcases List.mem_cons.mp hj with rfl | hm
        · exact ji rfl
        · refine h4 j u hm ?_
          rw [g2 j fun y => ji (List.mem_singleton.mp y)]
          exact z
def gTupM (is : List Nat) : T → Hs → En → Option En := fun t _ e => match t with
  | .tup ts => setsV e is ts
  | _ => none
theorem setsV_len : ∀ {is : List Nat} {e : En} {ts : List T} {e' : En}, setsV e is ts = some e' → ts.length = is.length
  | [], _, [], _, _ => rfl
  | [], _, _ :: _, _, h => by cases h
  | _ :: _, _, [], _, h => by cases h
  | i :: is, e, t :: ts, e', q => by
    obtain ⟨e1, q1, q2⟩ := Option.bind_eq_some_iff.mp (show (setV e i t).bind (fun e1 => setsV e1 is ts) = some e' from q)
    rw [List.length_cons, List.length_cons, setsV_len q2]
theorem gt_tup {K : PySem.W.Frag} {n : Nat} (hK : K = F.b.K) (is : List Nat) (hn : is.length = n) : GT F (gTup K n (gNames is)) is (gTupM is) where
  ok := fun w e h σ t v e' Q sr hr rv q k => by
    unfold gTupM at q
    split at q
    · rename_i ts
      unfold Rep at rv
      obtain ⟨a, vs, rfl, h1, _, h2⟩ := rv
      refine ⟨a, vs, rfl, hK ▸ h1, ?_, gnames_ok is e σ ts vs e' Q sr h2 q k⟩
      rw [h2.len, setsV_len q, hn]
    · cases q
  en := fun t h e e' q => by
    unfold gTupM at q
    split at q
    · exact sets_en is e _ e' q
    · cases q
end
end Y
/-! Y7: list comprehensions. -/
namespace Y
open PySem L2

/-- an exception is nothing that we speak of here -/
def Res.calm {α : Type} : Res α → Res α
  | .ok a h => .ok a h
  | _ => .bad
theorem Po.calm {α γ : Type} {b : Tb} {R : Wd → α → γ → Prop} {w : Wd} {W W' : XK} {Q : γ → Hp → Prop} {r : Res α} (p : Po b R w W Q r.calm) : Po b R w W' Q r := by
  cases r with
  | ok a h => exact p
  | exc c fs h => exact (show False from p).elim
  | bad => exact p
theorem Po.bindAtC {α β γ δ : Type} {b : Tb} {R : Wd → α → γ → Prop} {S : Wd → β → δ → Prop} {w w2 : Wd} {W W' : XK} {Q : δ → Hp → Prop} {r : Res α} {f : α → Hs → Res β} (p : Po b S w W Q (r.calm.bind f)) (e : Es w w2) :
    Po b R w2 W' (fun g H1 => ∃ w3 h3 a, w3.H = H1 ∧ Es w2 w3 ∧ HR b w3 h3 ∧ R w3 a g ∧ Po b S w W Q (f a h3)) r := by
  cases r with
  | ok a h => exact fun g w' e' hr q => ⟨w', h, a, rfl, e', hr, q, p⟩
  | exc c fs h => exact (show False from p).elim
  | bad => exact (show False from p).elim
/-- the frame within a comprehension's block: nothing is raised there -/
def Fr.blk (F : Fr) : Fr := { F with W := fun _ _ _ _ => False }

def wipeE (e : En) : List Nat → En
  | [] => e
  | v :: vs => (wipeE e vs).set v .no
theorem wipeE_len (e : En) : ∀ vs : List Nat, (wipeE e vs).length = e.length
  | [] => rfl
  | v :: vs => by
    unfold wipeE
    rw [List.length_set, wipeE_len e vs]
theorem wipeE_get {e : En} : ∀ {vs : List Nat} {i : Nat} {s : Sl}, (wipeE e vs)[i]? = some s → s = .no ∨ (e[i]? = some s ∧ i ∉ vs)
  | [], i, s, h => .inr ⟨h, by simp⟩
  | v :: vs, i, s, h => by
    unfold wipeE at h
    by_cases hi : v = i
    · subst hi
      by_cases hv : v < (wipeE e vs).length
      · rw [List.getElem?_set_self hv] at h
        cases h
        exact .inl rfl
      · rw [List.getElem?_eq_none (by simpa using hv)] at h
        cases h
    · rw [List.getElem?_set_ne hi] at h
      rcases wipeE_get h with h | ⟨h, n⟩
      · exact .inl h
      · exact .inr ⟨h, by simp only [List.mem_cons, not_or]; exact ⟨fun e => hi e.symm, n⟩⟩
theorem wipe_at {σ : L2.St} {i : Nat} {vs : List Nat} (n : i ∉ vs) : (wipe σ vs)[i]? = σ[i]? := wipe_out n
theorem SR.wipe {b : Tb} {w : Wd} {ga : List V} {σ : L2.St} {e : En} (r : SR b w ga σ e) (vs : List Nat) : SR b w ga (wipe σ vs) (wipeE e vs) where
  len := by rw [wipe_length, wipeE_len]; exact r.len
  at_ := fun i s h => by
    rcases wipeE_get h with rfl | ⟨h, n⟩
    · have hi : i < (L2.wipe σ vs).length := by
        have := (List.getElem?_eq_some_iff.mp h).1
        rw [wipe_length, r.len]
        rw [wipeE_len] at this
        exact this
      exact ⟨_, List.getElem?_eq_getElem hi, trivial⟩
    · obtain ⟨v, q, z⟩ := r.at_ i s h
      exact ⟨v, by rw [wipe_at n]; exact q, z⟩
  apart := fun i j s s' a h1 h2 m1 m2 e1 e2 => by
    rcases wipeE_get h1 with rfl | ⟨h1, n1⟩
    · cases m1
    · rcases wipeE_get h2 with rfl | ⟨h2, n2⟩
      · cases m2
      · rw [wipe_at n1] at e1
        rw [wipe_at n2] at e2
        exact r.apart i j s s' a h1 h2 m1 m2 e1 e2
theorem wipe_ext {σ τ : L2.St} (l : τ.length = σ.length) : ∀ {vs : List Nat}, (∀ j, j ∉ vs → τ[j]? = σ[j]?) → wipe τ vs = wipe σ vs := fun {vs} h => by
  apply List.ext_getElem?
  intro j
  by_cases hj : j ∈ vs
  · have go : ∀ {σ : L2.St} {vs : List Nat}, j ∈ vs → (wipe σ vs)[j]? = if j < σ.length then some none else none := by
      intro σ vs
      induction vs with
      | nil => intro h; cases h
      | cons v vs ih =>
        intro h
        unfold wipe
        by_cases vj : v = j
        · subst vj
          by_cases hl : v < σ.length
          · rw [List.getElem?_set_self (by rw [wipe_length]; exact hl), if_pos hl]
          · rw [List.getElem?_eq_none (by rw [List.length_set, wipe_length]; omega), if_neg hl]
        · rw [List.getElem?_set_ne vj]
          rcases List.mem_cons.mp h with z | z
          · exact absurd z.symm vj
          · exact ih z
    rw [go hj, go hj, l]
  · rw [wipe_at hj, wipe_at hj, h j hj]

/-- the loop of [te for gm in rd if tt]: acc is made so far -/
def compL (rd : Rdr) (gm : T → Hs → En → Option En) (tt : En → Hs → Res Bool) (te : EM) (e : En) : Nat → Nat → List T → Hs → Res T
  | 0, i, acc, h => match rd h with
    | some ys => if ys.length ≤ i then .ok (.lst acc) h else .bad
    | none => .bad
  | n + 1, i, acc, h => match rd h with
    | some ys => match ys[i]? with
      | none => .ok (.lst acc) h
      | some x => match gm x h e with
        | none => .bad
        | some e1 => (tt e1 h).calm.bind fun k h1 => if k then (te e1 h1).calm.bind fun y h2 => compL rd gm tt te e n (i + 1) (acc ++ [y]) h2 else compL rd gm tt te e n (i + 1) acc h1
    | none => .bad
def compM (src : SrcM) (gm : T → Hs → En → Option En) (tt : En → Hs → Res Bool) (te : EM) (vs : List Nat) : EM := fun e h => (src e h).bind fun rd h1 => match rd h1 with
  | some ys => if decide (ys.length < sizeLine) then compL rd gm tt te (wipeE e vs) ys.length 0 [] h1 else .bad
  | none => .bad
abbrev tP (F : Fr) (m : En → Hs → Res Bool) : TT := tT F m
def tyes : En → Hs → Res Bool := fun _ h => .ok true h

section
variable {X : Cx} {F : Fr} {pos : PySem.Pos} {elt tg iter : Expr} {ifs : List Expr} {scope : Scope} {own : List (Str × Nat)} {te : EM} {tt : En → Hs → Res Bool} {src : SrcM} {gm : T → Hs → En → Option En} {g : TG}
theorem wkTs {ifs : List Expr} {t t' : TT} (h : PTs X ifs t) (i : ∀ σ H Q, t' σ H Q → t σ H Q) : PTs X ifs t' := ⟨fun pins s σ H Q I q => h.run pins s σ H Q I (i σ H Q q)⟩
theorem ts_nil : PTs X [] (tT F tyes) := by
  refine wkTs pts_nil ?_
  rintro σ H Q ⟨w, en, h, rfl, sr, hr, p⟩
  exact p.fin hr rfl
theorem ts_one {c : Expr} (h : PT X c (tT F tt)) : PTs X [c] (tT F tt) := pts_one h

/-- a world in which D, made behind w, holds a list -/
structure Mk1 (b : Tb) (w w2 : Wd) (h2 : Hs) (D : Addr) (acc : List T) : Prop where
  es : Es w w2
  hr : HR b w2 h2
  d : ∃ vs, w2.H D = some (.lst vs) ∧ RepL b w2 acc vs
  m : w2.M D
  n : D ∉ w2.ρ
/-- a new list is laid, to be filled -/
theorem Mk1.start {b : Tb} {w : Wd} {h : Hs} {D : Addr} (hr : HR b w h) (n : w.H D = none) : Mk1 b w { w with M := fun a => w.M a ∨ a = D, H := upd w.H D (.lst []) } h D [] := by
  have e0 : Es w { w with H := upd w.H D (.lst []) } := Es.new n
  have es : Es w { w with M := fun a => w.M a ∨ a = D, H := upd w.H D (.lst []) } := ⟨e0.keep, fun a m l => by
      rcases m with m | rfl
      · exact m
      · exact absurd n l, fun a m => .inl m, e0.pre, e0.newR, e0.live⟩
  have kp := hr.kp es
  have nr : D ∉ w.ρ := fun z => by
    have := mut_ne (hr.mm D (hr.rm D z))
    exact this n
  refine ⟨es, ⟨hr.len, hr.nd, fun i t q => ?_, fun a m => .inl (hr.rm a m), fun a m => ?_⟩, ⟨[], upd_same, RepL.nil⟩, .inr rfl, nr⟩
  · obtain ⟨a, u, h1, h2, h3⟩ := hr.ob i t q
    exact ⟨a, u, h1, upd_keep h2 n, h3.kp kp⟩
  · show Mut (upd w.H D (.lst []) a)
    by_cases z : a = D
    · rw [z, upd_same]; trivial
    · rw [upd_ne z]
      rcases m with m | m
      · exact hr.mm a m
      · exact absurd m z
theorem Mk1.step {b : Tb} {w w2 w3 : Wd} {h2 h3 : Hs} {D : Addr} {acc : List T} (k : Mk1 b w w2 h2 D acc) (e : Es w2 w3) (hr : HR b w3 h3) : Mk1 b w w3 h3 D acc := by
  obtain ⟨vs, d1, d2⟩ := k.d
  refine ⟨k.es.trans e, hr, ⟨vs, e.keep D _ d1 k.n, d2.kp (k.hr.kp e)⟩, e.oldM D k.m, fun z => ?_⟩
  rcases e.newR D z with z | z
  · exact k.n z
  · rw [d1] at z; cases z
/-- one item more: a step from w2 that writes D alone -/
theorem Mk1.put {b : Tb} {w w2 : Wd} {h2 : Hs} {D : Addr} {acc : List T} {y : T} {v : V} (k : Mk1 b w w2 h2 D acc) (nd : w.H D = none) (r : Rep b w2 y v) {vs : List V} (hd : w2.H D = some (.lst vs)) :
    Mk1 b w { w2 with H := upd w2.H D (.lst (vs ++ [v])) } h2 D (acc ++ [y]) ∧ Kp w2 { w2 with H := upd w2.H D (.lst (vs ++ [v])) } := by
  obtain ⟨us, d1, d2⟩ := k.d
  rw [hd] at d1
  cases d1
  have kp : Kp w2 { w2 with H := upd w2.H D (.lst (vs ++ [v])) } := ⟨fun a o h n => by
      show upd w2.H D _ a = some o
      have ne : a ≠ D := fun z => by subst z; exact n k.m
      rw [upd_ne ne]
      exact h, fun a m _ => m, List.prefix_refl _, fun a us h => by
      show upd w2.H D _ a = some (.tup us)
      rw [upd_ne (ne_of h hd (by simp))]
      exact h, fun a o u h => by
      show upd w2.H D _ a = some (.frz o u)
      rw [upd_ne (ne_of h hd (by simp))]
      exact h, fun a l => by
      show upd w2.H D _ a ≠ none
      unfold upd
      split
      · simp
      · exact l⟩
  refine ⟨⟨⟨fun a o h n => ?_, k.es.newM, k.es.oldM, k.es.pre, k.es.newR, fun a l => kp.live a (k.es.live a l)⟩, ⟨k.hr.len, k.hr.nd, fun i t q => ?_, k.hr.rm, fun a m => ?_⟩, ⟨_, upd_same, (d2.kp kp).app (RepL.one (r.kp kp))⟩, k.m, k.n⟩, kp⟩
  · show upd w2.H D _ a = some o
    rw [upd_ne (ne_of_none h nd)]
    exact k.es.keep a o h n
  · obtain ⟨a, u, h1, h2, h3⟩ := k.hr.ob i t q
    refine ⟨a, u, h1, ?_, h3.kp kp⟩
    show upd w2.H D _ a = some u
    have ne : a ≠ D := fun z => by subst z; exact k.n (List.mem_of_getElem? h1)
    rw [upd_ne ne]
    exact h2
  · show Mut (upd w2.H D (.lst (vs ++ [v])) a)
    by_cases z : a = D
    · rw [z, upd_same]; trivial
    · rw [upd_ne z]
      exact k.hr.mm a m
/-- the list is a tree from now on -/
theorem Mk1.fin {b : Tb} {w w2 : Wd} {h2 : Hs} {D : Addr} {acc : List T} {W : XK} {Q : VK} (k : Mk1 b w w2 h2 D acc) (nd : w.H D = none) (hr0 : ∀ a, w.M a → Mut (w.H a)) (p : Po b (Rep b) w W Q (.ok (.lst acc) h2)) : Q (.ref D) w2.H := by
  obtain ⟨vs, d1, d2⟩ := k.d
  have kp : Kp w2 { w2 with M := fun a => w2.M a ∧ a ≠ D } := ⟨fun a o h n => h, fun a m _ => m.1, List.prefix_refl _, fun a us h => h, fun a o u h => h, fun a l => l⟩
  refine p (.ref D) { w2 with M := fun a => w2.M a ∧ a ≠ D } ⟨k.es.keep, fun a m l => k.es.newM a m.1 l, fun a m => ⟨k.es.oldM a m, fun z => ?_⟩, k.es.pre, k.es.newR, k.es.live⟩ ⟨k.hr.len, k.hr.nd, fun i t q => ?_, fun a m => ⟨k.hr.rm a m, fun z => by subst z; exact k.n m⟩, fun a m => k.hr.mm a m.1⟩ ?_
  · subst z
    exact mut_ne (hr0 _ m) nd
  · obtain ⟨a, u, h1, h2, h3⟩ := k.hr.ob i t q
    exact ⟨a, u, h1, h2, h3.kp kp⟩
  · unfold Rep
    exact ⟨D, vs, rfl, d1, fun z => z.2 rfl, d2.kp kp⟩
/-- slots stand through a step that writes D alone -/
theorem SR.put {b : Tb} {w2 w3 : Wd} {ga : List V} {σ : L2.St} {e : En} {D : Addr} (r : SR b w2 ga σ e) (kp : Kp w2 w3) (hH : ∀ a, a ≠ D → w3.H a = w2.H a) (hM : w3.M = w2.M) (hρ : w3.ρ = w2.ρ) (nd : ∀ (i : Nat) (s : Sl), e[i]? = some s → s.mine = true → σ[i]? ≠ some (some (V.ref D))) : SR b w3 ga σ e where
  len := r.len
  at_ := fun i s h => by
    obtain ⟨v, q, z⟩ := r.at_ i s h
    refine ⟨v, q, ?_⟩
    cases s with
    | no => trivial
    | val t => obtain ⟨x, q, z⟩ := z; exact ⟨x, q, z.kp kp⟩
    | own t =>
      obtain ⟨a, o, rfl, h1, h2, h3, h4⟩ := z
      have ne : a ≠ D := fun z => nd i _ h rfl (by rw [q, z])
      exact ⟨a, o, rfl, by rw [hH a ne]; exact h1, h2.kp kp, by rw [hM]; exact h3, by rw [hρ]; exact h4⟩
    | io t =>
      obtain ⟨a, o, rfl, h1, h2, h3, h4, h5⟩ := z
      have ne : a ≠ D := fun z => nd i _ h rfl (by rw [q, z])
      exact ⟨a, o, rfl, by rw [hH a ne]; exact h1, h2.kp kp, by rw [hM]; exact h3, by rw [hρ]; exact h4, h5⟩
  apart := r.apart
theorem SR.noD {b : Tb} {w : Wd} {ga : List V} {σ : L2.St} {e : En} {D : Addr} (r : SR b w ga σ e) (nd : w.H D = none) : ∀ (i : Nat) (s : Sl), e[i]? = some s → s.mine = true → σ[i]? ≠ some (some (V.ref D)) := fun i s h m q => by
  obtain ⟨v, q', z⟩ := r.at_ i s h
  rw [q'] at q
  cases q
  cases s with
  | no => cases m
  | val t => cases m
  | own t => obtain ⟨a, o, e, h1, _⟩ := z; cases e; rw [nd] at h1; cases h1
  | io t => obtain ⟨a, o, e, h1, _⟩ := z; cases e; rw [nd] at h1; cases h1

theorem comp_turns {w : Wd} {σ0 : L2.St} {e : En} {vs : List Nat} {J : It} {rd : Rdr} {D : Addr} {W : XK} {Q : VK} (gt : GT F g vs gm) (nd : w.H D = none) (hr0 : ∃ h, HR F.b w h) (sr0 : SR F.b w F.ga σ0 e) (wk : Wk F.b J w rd) (n0 : Nat) (hn0 : n0 < sizeLine)
    (hw : ∀ i s, e[i]? = some s → i ∈ vs → s = .no) :
    ∀ i m H, (∃ w2 h2 acc, w2.H = H ∧ Mk1 F.b w w2 h2 D acc ∧ SR F.b w2 F.ga σ0 e ∧ acc.length ≤ i ∧ i + m = n0 ∧ Po F.b (Rep F.b) w W Q (compL rd gm tt te e m i acc h2)) →
      (J.stop i H ∧ Q (.ref D) H) ∨ (J.go i H ∧ ∃ Nx : Hp → Prop, (∀ H', Nx H' → ∃ m', m' < m ∧ ∃ w2 h2 acc, w2.H = H' ∧ Mk1 F.b w w2 h2 D acc ∧ SR F.b w2 F.ga σ0 e ∧ acc.length ≤ i + 1 ∧ (i + 1) + m' = n0 ∧ Po F.b (Rep F.b) w W Q (compL rd gm tt te e m' (i + 1) acc h2)) ∧
        ∀ x H', J.yld i H x H' → g x σ0 H' fun σ2 H2 => wipe σ2 vs = wipe σ0 vs ∧ tT F.blk tt σ2 H2 fun b H3 =>
          if b = true then tE F.blk te σ2 H3 fun y H4 => ∃ acc, H4 D = some (.lst acc) ∧ acc.length < sizeLine ∧ Nx (upd H4 D (.lst (acc ++ [y]))) else Nx H3) := by
  obtain ⟨h0, hr0⟩ := hr0
  have noD := sr0.noD nd
  rintro i m H ⟨w2, h2, acc, rfl, mk, sr, hl, him, p⟩
  have kp2 : Kp w w2 := hr0.kp mk.es
  have stopHere : ∀ ys, rd h2 = some ys → ys.length ≤ i → Po F.b (Rep F.b) w W Q (.ok (.lst acc) h2) → (J.stop i w2.H ∧ Q (.ref D) w2.H) := fun ys q hi p => ⟨(wk w2 h2 kp2 mk.hr ys q i).2 hi, mk.fin nd hr0.mm p⟩
  cases m with
  | zero =>
    unfold compL at p
    split at p
    · rename_i ys q
      split at p
      · rename_i hi
        exact .inl (stopHere ys q hi p)
      · exact p.elim
    · exact p.elim
  | succ m =>
    unfold compL at p
    split at p
    · rename_i ys q
      split at p
      · rename_i hx
        exact .inl (stopHere ys q (List.getElem?_eq_none_iff.mp hx) p)
      · rename_i x hx
        have hi : i < ys.length := (List.getElem?_eq_some_iff.mp hx).1
        obtain ⟨go, yl⟩ := (wk w2 h2 kp2 mk.hr ys q i).1 hi
        refine .inr ⟨go, fun H' => ∃ w2 h2 acc, w2.H = H' ∧ Mk1 F.b w w2 h2 D acc ∧ SR F.b w2 F.ga σ0 e ∧ acc.length ≤ i + 1 ∧ (i + 1) + m = n0 ∧ Po F.b (Rep F.b) w W Q (compL rd gm tt te e m (i + 1) acc h2), fun H' z => ⟨m, Nat.lt_succ_self _, z⟩, fun x' H' y => ?_⟩
        obtain ⟨w3, rfl, es3, hr3, t, ht, rt⟩ := yl x' H' y
        rw [hx] at ht
        cases ht
        have mk3 := mk.step es3 hr3
        have sr3 := sr.kp es3 (mk.hr.kp es3)
        split at p
        · exact p.elim
        · rename_i e1 ge
          obtain ⟨en1, en2, en3, en4⟩ := gt.en _ _ _ _ ge
          refine gt.ok w3 e h2 σ0 x x' e1 _ sr3 hr3 rt ge fun σ' sr' l' out => ⟨wipe_ext l' out, ?_⟩
          -- the slots ahead of the target's store, in any later world
          have back : ∀ {w' : Wd}, SR F.b w' F.ga σ' e1 → SR F.b w' F.ga σ0 e := fun {w'} r => ⟨sr0.len, fun j s hs => by
            by_cases hj : j ∈ vs
            · have := hw j s hs hj
              subst this
              have hj2 : j < σ0.length := by rw [sr0.len]; exact (List.getElem?_eq_some_iff.mp hs).1
              exact ⟨_, List.getElem?_eq_getElem hj2, trivial⟩
            · obtain ⟨v, q1, q2⟩ := r.at_ j s (by rw [en2 j hj]; exact hs)
              exact ⟨v, by rw [← out j hj]; exact q1, q2⟩, sr0.apart⟩
          have noD' : ∀ (j : Nat) (s : Sl), e1[j]? = some s → s.mine = true → σ'[j]? ≠ some (some (V.ref D)) := fun j s hs ms => by
            by_cases hj : j ∈ vs
            · rw [en3 j s hj hs] at ms; cases ms
            · rw [en2 j hj] at hs
              rw [out j hj]
              exact noD j s hs ms
          refine ⟨w3, e1, h2, rfl, sr', hr3, Po.mono (Po.bindAtC (R := fun _ (x k : Bool) => x = k) p mk3.es) ?_⟩
          rintro k H3 ⟨w4, h4, _, rfl, es4, hr4, rfl, p4⟩
          have mk4 := mk3.step es4 hr4
          have sr4 := sr'.kp es4 (mk3.hr.kp es4)
          split at p4
          · rename_i hk
            rw [if_pos hk]
            refine ⟨w4, e1, h4, rfl, sr4, hr4, Po.mono (Po.bindAtC (R := Rep F.b) p4 mk4.es) ?_⟩
            rintro y' H5 ⟨w5, h5, ty, rfl, es5, hr5, ry, p5⟩
            have mk5 := mk4.step es5 hr5
            have sr5 := sr4.kp es5 (mk4.hr.kp es5)
            obtain ⟨us, d1, d2⟩ := mk5.d
            refine ⟨us, d1, ?_, ?_⟩
            · rw [d2.len]; omega
            · obtain ⟨mk6, kp6⟩ := mk5.put nd ry d1
              refine ⟨_, h5, acc ++ [ty], rfl, mk6, back (sr5.put kp6 (fun a ne => upd_ne ne) rfl rfl noD'), ?_, by omega, p5⟩
              rw [List.length_append, List.length_singleton]
              omega
          · rename_i hk
            rw [if_neg hk]
            exact ⟨w4, h4, acc, rfl, mk4, back sr4, by omega, by omega, p4⟩
    · exact p.elim
theorem t_lc {vs : List Nat} {σ : L2.St} {H : Hp} {Q : VK} (gt : GT F.blk g vs gm) (z : tE F (compM src gm tt te vs) σ H Q) : tLc (tI F src) g (tT F.blk tt) (tE F.blk te) vs σ H Q := by
  refine tG.mono (tG.bind (R := fun w rd J => Wk F.b J w rd) z) ?_
  rintro J H1 ⟨w1, e, h1, rd, rfl, sr1, hr1, wk, p1⟩
  intro D nD
  split at p1
  · rename_i ys q
    split at p1
    · rename_i hf
      have sr2 := sr1.wipe vs
      have mk := Mk1.start hr1 nD
      have srw : SR F.b _ F.ga (wipe σ vs) (wipeE e vs) := sr2.kp mk.es (hr1.kp mk.es)
      refine ⟨fun i m H => ∃ w2 h2 acc, w2.H = H ∧ Mk1 F.b w1 w2 h2 D acc ∧ SR F.b w2 F.ga (wipe σ vs) (wipeE e vs) ∧ acc.length ≤ i ∧ i + m = ys.length ∧ Po F.b (Rep F.b) w1 (fun c d H => F.W c d σ H) Q (compL rd gm tt te (wipeE e vs) m i acc h2),
        ⟨ys.length, _, h1, [], rfl, mk, srw, Nat.zero_le _, Nat.zero_add _, p1⟩, ?_⟩
      have ct := comp_turns (F := F.blk) (tt := tt) (te := te) (W := fun c d H => F.W c d σ H) (Q := Q) (J := J) (rd := rd) (D := D) gt nD ⟨h1, hr1⟩ sr2 wk ys.length (of_decide_eq_true hf) fun i s hs hm => by
        rcases wipeE_get hs with z | ⟨_, n⟩
        · exact z
        · exact absurd hm n
      intro i m H hW
      have idem : wipe (wipe σ vs) vs = wipe σ vs := wipe_ext (wipe_length _ _) fun j hj => wipe_at hj
      have r := ct i m H hW
      rw [idem] at r
      exact r
    · exact p1.elim
  · exact p1.elim
theorem s_lc (hc : X.calm = true) (hN : X.N.Nodup) (hi : PI X tg iter (tI F src)) (ok : BlkOk X.N X.env.scope scope own) (gt : GT F.blk g (own.map (·.2)) gm)
    (hg : ∀ (s : Shared) (H : Hp) (C : Addr) (cl : List (Str × Addr)) (fp : List Addr), PG (X.blk s H scope (compEnvC scope cl C X.env) fp) tg g) (ht : ∀ (s : Shared) (H : Hp) (C : Addr) (cl : List (Str × Addr)) (fp : List Addr), PTs (X.blk s H scope (compEnvC scope cl C X.env) fp) ifs (tT F.blk tt))
    (he : ∀ (s : Shared) (H : Hp) (C : Addr) (cl : List (Str × Addr)) (fp : List Addr), PE (X.blk s H scope (compEnvC scope cl C X.env) fp) elt (tE F.blk te)) (hs : ∀ x, foldedSetIterable iter X.env x = pure x := by intro _; rfl) :
    PE X (.ListComp elt [⟨tg, iter, ifs, 0⟩] scope pos) (tE F (compM src gm tt te (own.map (·.2)))) :=
  wkE (pe_lc hc hN hi ok hg ht he hs) fun _ _ _ z => t_lc gt z
end
end Y
/-! Y8: statements. -/
namespace Y
open PySem L2

inductive SRes where
  | nx (e : En) (h : Hs) | rt (t : T) (e : En) (h : Hs) | brk (e : En) (h : Hs) | cnt (e : En) (h : Hs)
  | exc (c : Nat) (fs : Option (List Str × List T)) (e : En) (h : Hs) | bad
abbrev SM := En → Hs → SRes

/-- what a def's body may write of what stood at its entry -/
def Fr.tc (F : Fr) (a : Addr) : Prop := a ∈ F.w0.ρ ∨ ∃ (i : Nat) (t : T), F.as[i]? = some (.own t) ∧ F.ga[i]? = some (.ref a)
structure SI (F : Fr) (w : Wd) (σ : L2.St) (e : En) (h : Hs) : Prop where
  sr : SR F.b w F.ga σ e
  hr : HR F.b w h
  sn : Ev F.tc F.w0 w
  nw : ∀ (i : Nat) (t : T) (a : Addr), e[i]? = some (.own t) → σ[i]? = some (some (.ref a)) → F.w0.H a = none
  lk : ∀ (i : Nat) (t : T), F.as[i]? = some (.own t) → ∃ t', e[i]? = some (.io t')
  m0 : ∀ a, F.w0.M a → F.w0.H a ≠ none
  li : ∀ (i : Nat) (t : T), e[i]? = some (.io t) → ∃ t', F.as[i]? = some (.own t')
theorem SI.es {F : Fr} {w w' : Wd} {σ : L2.St} {e : En} {h h' : Hs} (s : SI F w σ e h) (es : Es w w') (hr : HR F.b w' h') : SI F w' σ e h' :=
  ⟨s.sr.kp es (s.hr.kp es), hr, s.sn.trans es fun a z l => by
    rcases s.sn.newR a z with q | q
    · exact .inl q
    · exact absurd q l, s.nw, s.lk, s.m0, s.li⟩

/-- what is wanted behind a statement -/
def PoS (F : Fr) (w : Wd) (D : Ends) : SRes → Prop
  | .nx e h => ∀ σ' w', SI F w' σ' e h → Kp w w' → D.nx σ' w'.H
  | .brk e h => ∀ σ' w', SI F w' σ' e h → Kp w w' → D.bk σ' w'.H
  | .cnt e h => ∀ σ' w', SI F w' σ' e h → Kp w w' → D.ct σ' w'.H
  | .rt t e h => ∀ v σ' w', SI F w' σ' e h → Kp w w' → Rep F.b w' t v → D.rt v w'.H
  | .exc c fs e h => ∀ cls d σ' w', SI F w' σ' e h → Kp w w' → RepX F.b w' c fs cls d → F.W cls d σ' w'.H
  | .bad => False
theorem PoS.step {F : Fr} {w w1 : Wd} {D : Ends} {r : SRes} (k : Kp w w1) (p : PoS F w D r) : PoS F w1 D r := by
  cases r with
  | nx e h => exact fun σ' w' s q => p σ' w' s (k.trans q)
  | brk e h => exact fun σ' w' s q => p σ' w' s (k.trans q)
  | cnt e h => exact fun σ' w' s q => p σ' w' s (k.trans q)
  | rt t e h => exact fun v σ' w' s q => p v σ' w' s (k.trans q)
  | exc c fs e h => exact fun cls d σ' w' s q => p cls d σ' w' s (k.trans q)
  | bad => exact p
/-- THE READING of a statement -/
def tS (F : Fr) (m : SM) : TS := fun D σ H => ∃ w e h, w.H = H ∧ SI F w σ e h ∧ PoS F w D (m e h)

/-- an expression ahead of the rest of a statement -/
def Res.go {α : Type} (r : Res α) (e : En) (f : α → Hs → SRes) : SRes := match r with
  | .ok a h => f a h
  | .exc c fs h => .exc c fs e h
  | .bad => .bad
@[simp] theorem Res.go_ok {α : Type} (a : α) (h : Hs) (e : En) (f : α → Hs → SRes) : (Res.ok a h).go e f = f a h := rfl
@[simp] theorem Res.go_exc {α : Type} (c : Nat) (fs : Option (List Str × List T)) (h : Hs) (e : En) (f : α → Hs → SRes) : (Res.exc c fs h : Res α).go e f = .exc c fs e h := rfl
@[simp] theorem Res.go_bad {α : Type} (e : En) (f : α → Hs → SRes) : (Res.bad : Res α).go e f = .bad := rfl
theorem tS.goE {α γ : Type} {F : Fr} {R : Wd → α → γ → Prop} {m : En → Hs → Res α} {k : α → En → Hs → SRes} {D : Ends} {σ : L2.St} {H : Hp} (p : tS F (fun e h => (m e h).go e fun a h1 => k a e h1) D σ H) :
    tG F R m σ H fun g H1 => ∃ w1 e h1 a, w1.H = H1 ∧ SI F w1 σ e h1 ∧ R w1 a g ∧ PoS F w1 D (k a e h1) := by
  obtain ⟨w, e, h, rfl, s, p⟩ := p
  have p : PoS F w D ((m e h).go e fun a h1 => k a e h1) := p
  refine ⟨w, e, h, rfl, s.sr, s.hr, ?_⟩
  generalize m e h = r at p ⊢
  cases r with
  | ok a h1 => exact fun g w' es hr q => ⟨w', e, h1, a, rfl, s.es es hr, q, PoS.step (s.hr.kp es) p⟩
  | exc c fs h1 => exact fun cls d w' es hr q => p cls d σ w' (s.es es hr) (s.hr.kp es) q
  | bad => exact p

section
variable {X : Cx} {F : Fr} {pos p q : PySem.Pos} {a c e tg iter : Expr} {st : Stmt} {sts : List Stmt} {ma mb : EM} {m m' : SM} {am : AM}
theorem wkS {t t' : TS} (h : PS X st t) (i : ∀ D σ H, t' D σ H → t D σ H) : PS X st t' := ⟨fun pins s σ H D I q => h.run pins s σ H D I (i D σ H q)⟩
theorem wkSs {t t' : TS} (h : PSs X sts t) (i : ∀ D σ H, t' D σ H → t D σ H) : PSs X sts t' := ⟨fun pins s σ H D I q => h.run pins s σ H D I (i D σ H q)⟩

/-! ### blocks -/
def nilS : SM := fun e h => .nx e h
def seqS (m m' : SM) : SM := fun e h => match m e h with
  | .nx e1 h1 => m' e1 h1
  | r => r
theorem b_nil : PSs X [] (tS F nilS) := by
  refine wkSs pss_nil ?_
  rintro D σ H ⟨w, e, h, rfl, s, p⟩
  exact p σ w s Kp.refl
theorem b_cons (h1 : PS X st (tS F m)) (h2 : PSs X sts (tS F m')) : PSs X (st :: sts) (tS F (seqS m m')) := by
  refine wkSs (pss_cons h1 h2) ?_
  rintro D σ H ⟨w, e, h, rfl, s, p⟩
  refine ⟨w, e, h, rfl, s, ?_⟩
  unfold seqS at p
  generalize m e h = r at p ⊢
  cases r with
  | nx e1 h1 => exact fun σ' w' s' k => ⟨w', e1, h1, rfl, s', PoS.step k p⟩
  | brk e1 h1 => exact p
  | cnt e1 h1 => exact p
  | rt t e1 h1 => exact p
  | exc c fs e1 h1 => exact p
  | bad => exact p
theorem b_one (h1 : PS X st (tS F m)) : PSs X [st] (tS F m) := pss_one h1
theorem x_pass : PS X (.Pass pos) (tS F nilS) := by
  refine wkS ps_pass ?_
  rintro D σ H ⟨w, e, h, rfl, s, p⟩
  exact p σ w s Kp.refl
def brkS : SM := fun e h => .brk e h
def cntS : SM := fun e h => .cnt e h
theorem x_brk : PS X (.Break pos) (tS F brkS) := by
  refine wkS ps_break ?_
  rintro D σ H ⟨w, e, h, rfl, s, p⟩
  exact p σ w s Kp.refl
theorem x_cnt : PS X (.Continue pos) (tS F cntS) := by
  refine wkS ps_continue ?_
  rintro D σ H ⟨w, e, h, rfl, s, p⟩
  exact p σ w s Kp.refl
/-- code that is never come to -/
def nevS : SM := fun _ _ => .bad
theorem x_nev : PS X st (tS F nevS) := by
  refine wkS ps_never ?_
  rintro D σ H ⟨w, e, h, rfl, s, p⟩
  exact p

/-! ### small statements -/
def exprS (m : EM) : SM := fun e h => (m e h).go e fun _ h1 => .nx e h1
theorem x_expr (he : PE X a (tE F ma)) (hs : swapsWith a none pos.line X.env = pure false := by rfl) : PS X (.Expr a pos) (tS F (exprS ma)) := by
  refine wkS (ps_expr he hs) fun D σ H z => ?_
  refine tG.mono (tS.goE (R := Rep F.b) z) ?_
  rintro v H1 ⟨w1, e, h1, t, rfl, s1, r1, p1⟩
  exact p1 σ w1 s1 Kp.refl
def retS (m : EM) : SM := fun e h => (m e h).go e fun t h1 => .rt t e h1
theorem x_ret (he : PE X a (tE F ma)) : PS X (.Return (some a) pos) (tS F (retS ma)) := by
  refine wkS (ps_ret he) fun D σ H z => ?_
  refine tG.mono (tS.goE (R := Rep F.b) z) ?_
  rintro v H1 ⟨w1, e, h1, t, rfl, s1, r1, p1⟩
  exact p1 v σ w1 s1 Kp.refl r1
def retNS : SM := fun e h => .rt .non e h
theorem x_retN : PS X (.Return none pos) (tS F retNS) := by
  refine wkS ps_retN ?_
  rintro D σ H ⟨w, e, h, rfl, s, p⟩
  exact p .non σ w s Kp.refl r_non
def ifS (t : En → Hs → Res Bool) (m m' : SM) : SM := fun e h => (t e h).go e fun k h1 => if k then m e h1 else m' e h1
theorem x_if {t : En → Hs → Res Bool} {as bs : List Stmt} (hc : PT X c (tT F t)) (ha : PSs X as (tS F m)) (hb : PSs X bs (tS F m')) : PS X (.If c as bs pos) (tS F (ifS t m m')) := by
  refine wkS (ps_if hc ha hb) fun D σ H z => ?_
  refine tG.mono (tS.goE (R := fun _ (x k : Bool) => x = k) z) ?_
  rintro k H1 ⟨w1, e, h1, _, rfl, s1, rfl, p1⟩
  split at p1
  · rename_i hk
    rw [if_pos hk]
    exact ⟨w1, e, h1, rfl, s1, p1⟩
  · rename_i hk
    rw [if_neg hk]
    exact ⟨w1, e, h1, rfl, s1, p1⟩

/-! ### stores into names -/
/-- behind a store by a target -/
theorem SI.tgt {w : Wd} {σ σ' : L2.St} {e e' : En} {h : Hs} {vs : List Nat} (s : SI F w σ e h) (sr : SR F.b w F.ga σ' e') (out : ∀ j, j ∉ vs → σ'[j]? = σ[j]?) (en2 : ∀ j, j ∉ vs → e'[j]? = e[j]?)
    (en3 : ∀ j s, j ∈ vs → e'[j]? = some s → s.mine = false) (en4 : ∀ j t, j ∈ vs → e[j]? ≠ some (.io t)) : SI F w σ' e' h := by
  refine ⟨sr, s.hr, s.sn, fun i t a q1 q2 => ?_, fun i t q => ?_, s.m0, fun i t q => ?_⟩
  · by_cases hi : i ∈ vs
    · have := en3 i _ hi q1
      cases this
    · rw [en2 i hi] at q1
      rw [out i hi] at q2
      exact s.nw i t a q1 q2
  · obtain ⟨t', q'⟩ := s.lk i t q
    by_cases hi : i ∈ vs
    · exact absurd q' (en4 i t' hi)
    · exact ⟨t', by rw [en2 i hi]; exact q'⟩
  · by_cases hi : i ∈ vs
    · have := en3 i _ hi q
      cases this
    · rw [en2 i hi] at q
      exact s.li i t q
def asgS (m : EM) (gm : T → Hs → En → Option En) : SM := fun e h => (m e h).go e fun t h1 => match gm t h1 e with
  | some e' => .nx e' h1
  | none => .bad
theorem t_asg {t : T} {v : V} {w : Wd} {e : En} {σ : L2.St} {h : Hs} {g : TG} {vs : List Nat} {gm : T → Hs → En → Option En} {D : Ends} (gt : GT F g vs gm) (s : SI F w σ e h) (r : Rep F.b w t v)
    {k : En → SRes} (p : PoS F w D (match gm t h e with | some e' => k e' | none => .bad)) : ∃ e', gm t h e = some e' ∧ ∀ Q : L2.St → Hp → Prop, (∀ σ', SI F w σ' e' h → PoS F w D (k e') → Q σ' w.H) → g v σ w.H Q := by
  split at p
  · rename_i e' q
    refine ⟨e', q, fun Q hQ => ?_⟩
    obtain ⟨n1, n2, n3, n4⟩ := gt.en _ _ _ _ q
    exact gt.ok w e h σ t v e' Q s.sr s.hr r q fun σ' sr l out => hQ σ' (s.tgt sr out n2 n3 n4) p
  · exact p.elim
theorem x_asg {g : TG} {vs : List Nat} {gm : T → Hs → En → Option En} (gt : GT F g vs gm) (he : PE X a (tE F ma)) (hg : PG X tg g) (hs : swapsWithSole [tg] a pos.line X.env = pure false := by rfl) (hw : swappedStores [tg] a X.env = pure none := by rfl)
    (h1 : (assignEach [tg] X.env).map (·.2) = [assign tg X.env] := by rfl) : PS X (.Assign [tg] a pos) (tS F (asgS ma gm)) := by
  refine wkS (ps_asg he hg hs hw h1) fun D σ H z => ?_
  refine tG.mono (tS.goE (R := Rep F.b) z) ?_
  rintro v H1 ⟨w1, e, h1, t, rfl, s1, r1, p1⟩
  obtain ⟨e', q, k⟩ := t_asg (k := fun e' => .nx e' h1) gt s1 r1 p1
  exact k _ fun σ' s' p' => p' σ' w1 s' Kp.refl
theorem x_set {i : Nat} {x : Str} {p' : PySem.Pos} (hN : X.N.Nodup) (hi : X.N[i]? = some x) (hx : Loc X.env.scope x) (he : PE X a (tE F ma)) (hs : swapsWith a (some (.Name x p')) pos.line X.env = pure false := by rfl)
    (hf : X.fn x = true ∨ X.env.scope.names.lookup x = some .local := by first | exact .inl rfl | exact .inr rfl | assumption) : PS X (.Assign [.Name x p'] a pos) (tS F (asgS ma (gOne i))) := by
  refine wkS (ps_set hN hi hx he hs hf) fun D σ H z => ?_
  refine tG.mono (tS.goE (R := Rep F.b) z) ?_
  rintro v H1 ⟨w1, e, h1, t, rfl, s1, r1, p1⟩
  obtain ⟨e', q, k⟩ := t_asg (k := fun e' => .nx e' h1) (gt_one i) s1 r1 p1
  exact k _ fun σ' s' p' => p' σ' w1 s' Kp.refl
/-- x = [.. for ..] on one line -/
theorem x_setLc {i : Nat} {y : Str} {py spos : PySem.Pos} {elt : Expr} {ifs : List Expr} {scope : Scope} {own : List (Str × Nat)} {te : EM} {tt : En → Hs → Res Bool} {src : SrcM} {gm : T → Hs → En → Option En} {g : TG}
    (hc : X.calm = true) (hN : X.N.Nodup) (hy : X.N[i]? = some y) (hyl : X.env.scope.names.lookup y = some .local)
    (hsw : swapsWith (.ListComp elt [⟨tg, iter, ifs, 0⟩] scope pos) (some (.Name y py)) spos.line X.env = pure true) (hi : PI X tg iter (tI F src)) (ok : BlkOk X.N X.env.scope scope own) (gt : GT F.blk g (own.map (·.2)) gm)
    (hg : ∀ (s : Shared) (H : Hp) (C : Addr) (cl : List (Str × Addr)) (fp : List Addr), PG (X.blk s H scope (compEnvC scope cl C X.env) fp) tg g) (ht : ∀ (s : Shared) (H : Hp) (C : Addr) (cl : List (Str × Addr)) (fp : List Addr), PTs (X.blk s H scope (compEnvC scope cl C X.env) fp) ifs (tT F.blk tt))
    (he : ∀ (s : Shared) (H : Hp) (C : Addr) (cl : List (Str × Addr)) (fp : List Addr), PE (X.blk s H scope (compEnvC scope cl C X.env) fp) elt (tE F.blk te)) (hs : ∀ x, foldedSetIterable iter X.env x = pure x := by intro _; rfl) :
    PS X (.Assign [.Name y py] (.ListComp elt [⟨tg, iter, ifs, 0⟩] scope pos) spos) (tS F (asgS (compM src gm tt te (own.map (·.2))) (gOne i))) := by
  refine wkS (ps_setLc hc hN hy hyl hsw hi ok hg ht he hs) fun D σ H z => ?_
  refine t_lc (F := F) gt ?_
  refine tG.mono' (tS.goE (R := Rep F.b) z) ?_
  rintro v H1 ⟨w1, e, h1, t, rfl, s1, r1, p1⟩
  obtain ⟨e', q, k⟩ := t_asg (k := fun e' => .nx e' h1) (gt_one i) s1 r1 p1
  exact k _ fun σ' s' p' => p' σ' w1 s' Kp.refl
where
  tG.mono' {α γ : Type} {F : Fr} {R : Wd → α → γ → Prop} {m : En → Hs → Res α} {σ : L2.St} {H : Hp} {Q Q' : γ → Hp → Prop} (p : tG F R m σ H Q) (h : ∀ g H, Q g H → Q' g H) : tG F R m σ H Q' := tG.mono p h

/-! ### for -/
/-- the turns of a for: fuel, the turn's number -/
def forL (rd : Rdr) (gm : T → Hs → En → Option En) (body : SM) : Nat → Nat → SM
  | 0, i, e, h => match rd h with
    | some ys => if ys.length ≤ i then .nx e h else .bad
    | none => .bad
  | n + 1, i, e, h => match rd h with
    | some ys => match ys[i]? with
      | none => .nx e h
      | some x => match gm x h e with
        | some e1 => match body e1 h with
          | .nx e2 h2 => forL rd gm body n (i + 1) e2 h2
          | .cnt e2 h2 => forL rd gm body n (i + 1) e2 h2
          | .brk e2 h2 => .nx e2 h2
          | r => r
        | none => .bad
    | none => .bad
def forS (src : SrcM) (gm : T → Hs → En → Option En) (body : SM) : SM := fun e h => (src e h).go e fun rd h1 => match rd h1 with
  | some ys => forL rd gm body ys.length 0 e h1
  | none => .bad
theorem x_for {g : TG} {vs : List Nat} {gm : T → Hs → En → Option En} {src : SrcM} {body : List Stmt} (hp : PassesOwn (model X.prog X.w) X.A X.env X.xe) (hc : X.calm = true) (gt : GT F g vs gm) (hi : PI X tg iter (tI F src)) (hg : PG X tg g) (hb : PSs X body (tS F m))
    (hs : ∀ x, foldedSetIterable iter X.env x = pure x := by intro _; rfl) : PS X (.For tg iter body [] pos) (tS F (forS src gm m)) := by
  refine wkS (ps_for hp hc hi hg hb hs) fun D σ H z => ?_
  refine tG.mono (tS.goE (R := fun w rd J => Wk F.b J w rd) z) ?_
  rintro J H1 ⟨w1, e0, h1, rd, rfl, s1, wk, p1⟩
  split at p1
  · rename_i ys0 q0
    refine ⟨fun i n σ H => ∃ w2 e h2, w2.H = H ∧ SI F w2 σ e h2 ∧ Kp w1 w2 ∧ PoS F w2 D (forL rd gm m n i e h2), ⟨ys0.length, w1, e0, h1, rfl, s1, Kp.refl, p1⟩, ?_⟩
    rintro i n σ H ⟨w2, e, h2, rfl, s2, k2, p⟩
    have stopHere : ∀ ys, rd h2 = some ys → ys.length ≤ i → PoS F w2 D (.nx e h2) → (J.stop i w2.H ∧ D.nx σ w2.H) := fun ys q hi p => ⟨(wk w2 h2 k2 s2.hr ys q i).2 hi, p σ w2 s2 Kp.refl⟩
    cases n with
    | zero =>
      unfold forL at p
      split at p
      · rename_i ys q
        split at p
        · rename_i hi
          exact .inl (stopHere ys q hi p)
        · exact p.elim
      · exact p.elim
    | succ n =>
      unfold forL at p
      split at p
      · rename_i ys q
        split at p
        · rename_i hx
          exact .inl (stopHere ys q (List.getElem?_eq_none_iff.mp hx) p)
        · rename_i x hx
          have hi : i < ys.length := (List.getElem?_eq_some_iff.mp hx).1
          obtain ⟨go, yl⟩ := (wk w2 h2 k2 s2.hr ys q i).1 hi
          refine .inr ⟨go, fun σ' H' => ∃ w2 e h2, w2.H = H' ∧ SI F w2 σ' e h2 ∧ Kp w1 w2 ∧ PoS F w2 D (forL rd gm m n (i + 1) e h2), fun σ' H' z => ⟨n, Nat.lt_succ_self _, z⟩, fun x' H' y => ?_⟩
          obtain ⟨w3, rfl, es3, hr3, t, ht, rt⟩ := yl x' H' y
          rw [hx] at ht
          cases ht
          have s3 := s2.es es3 hr3
          have k3 := k2.trans (s2.hr.kp es3)
          have p3 := PoS.step (s2.hr.kp es3) p
          obtain ⟨e1, q1, kk⟩ := t_asg (k := fun e1 => match m e1 h2 with
            | .nx e2 h2 => forL rd gm m n (i + 1) e2 h2
            | .cnt e2 h2 => forL rd gm m n (i + 1) e2 h2
            | .brk e2 h2 => .nx e2 h2
            | r => r) gt s3 rt p3
          refine kk _ fun σ' s' p' => ⟨w3, e1, h2, rfl, s', ?_⟩
          generalize m e1 h2 = r at p' ⊢
          cases r with
          | nx e2 h3 => exact fun σ4 w4 s4 k4 => ⟨w4, e2, h3, rfl, s4, k3.trans k4, PoS.step k4 p'⟩
          | cnt e2 h3 => exact fun σ4 w4 s4 k4 => ⟨w4, e2, h3, rfl, s4, k3.trans k4, PoS.step k4 p'⟩
          | brk e2 h3 => exact p'
          | rt t e2 h3 => exact p'
          | exc c fs e2 h3 => exact p'
          | bad => exact p'
      · exact p.elim
  · exact p1.elim

/-! ### while -/
def whileL (t : En → Hs → Res Bool) (body : SM) : Nat → SM
  | 0, _, _ => .bad
  | n + 1, e, h => (t e h).go e fun k h1 => if k then match body e h1 with
      | .nx e2 h2 => whileL t body n e2 h2
      | .cnt e2 h2 => whileL t body n e2 h2
      | .brk e2 h2 => .nx e2 h2
      | r => r
    else .nx e h1
theorem x_while {t : En → Hs → Res Bool} {body : List Stmt} (n0 : Nat) (hp : PassesOwn (model X.prog X.w) X.A X.env X.xe) (hc : PT X c (tT F t)) (hb : PSs X body (tS F m)) : PS X (.While c body [] pos) (tS F (whileL t m n0)) := by
  refine wkS (ps_while hp hc hb) fun D σ H z => ?_
  obtain ⟨w, e, h, rfl, s, p⟩ := z
  refine ⟨fun n σ H => ∃ w2 e h2, w2.H = H ∧ SI F w2 σ e h2 ∧ PoS F w2 D (whileL t m n e h2), ⟨n0, w, e, h, rfl, s, p⟩, ?_⟩
  rintro n σ H ⟨w2, e, h2, rfl, s2, p⟩
  cases n with
  | zero => exact p.elim
  | succ n =>
    have z : tS F (fun e h => (t e h).go e fun k h1 => if k then match m e h1 with
      | .nx e2 h2 => whileL t m n e2 h2
      | .cnt e2 h2 => whileL t m n e2 h2
      | .brk e2 h2 => .nx e2 h2
      | r => r
    else .nx e h1) D σ w2.H := ⟨w2, e, h2, rfl, s2, p⟩
    refine tG.mono (tS.goE (R := fun _ (x k : Bool) => x = k) z) ?_
    rintro k H1 ⟨w3, e, h3, _, rfl, s3, rfl, p3⟩
    split at p3
    · rename_i hk
      rw [if_pos hk]
      refine ⟨fun σ' H' => ∃ w2 e h2, w2.H = H' ∧ SI F w2 σ' e h2 ∧ PoS F w2 D (whileL t m n e h2), fun σ' H' z => ⟨n, Nat.lt_succ_self _, z⟩, ⟨w3, e, h3, rfl, s3, ?_⟩⟩
      generalize m e h3 = r at p3 ⊢
      cases r with
      | nx e2 h3 => exact fun σ4 w4 s4 k4 => ⟨w4, e2, h3, rfl, s4, PoS.step k4 p3⟩
      | cnt e2 h3 => exact fun σ4 w4 s4 k4 => ⟨w4, e2, h3, rfl, s4, PoS.step k4 p3⟩
      | brk e2 h3 => exact p3
      | rt t e2 h3 => exact p3
      | exc c fs e2 h3 => exact p3
      | bad => exact p3
    · rename_i hk
      rw [if_neg hk]
      exact p3 σ w3 s3 Kp.refl
end
end Y
/-! Y9: objects of a frame's own; defs and their promises. -/
namespace Y
open PySem L2

section
variable {X : Cx} {F : Fr} {pos p q : PySem.Pos} {a c e tg iter : Expr} {st : Stmt} {sts : List Stmt} {ma mb : EM} {m m' : SM} {am : AM}

/-! ### an object of the frame's own is written -/
def Sl.with : Sl → T → Sl
  | .own _, t => .own t
  | .io _, t => .io t
  | s, _ => s
def mineT : Sl → Option T
  | .own t => some t
  | .io t => some t
  | _ => none
theorem mineT_mine {s : Sl} {t : T} (h : mineT s = some t) : s.mine = true := by cases s <;> first | rfl | cases h
/-- where it stands -/
theorem SI.mine {w : Wd} {σ : L2.St} {e : En} {h : Hs} (s : SI F w σ e h) {i : Nat} {sl : Sl} {t : T} (hi : e[i]? = some sl) (hm : mineT sl = some t) :
    ∃ a o, σ[i]? = some (some (.ref a)) ∧ w.H a = some o ∧ RepC F.b w t o ∧ w.M a ∧ a ∉ w.ρ ∧ (F.w0.H a = none ∨ F.tc a) := by
  obtain ⟨v, hv, r⟩ := s.sr.at_ i sl hi
  cases sl with
  | no => cases hm
  | val u => cases hm
  | own u =>
    cases hm
    obtain ⟨a, o, rfl, h1, h2, h3, h4⟩ := r
    exact ⟨a, o, hv, h1, h2, h3, h4, .inl (s.nw i t a hi hv)⟩
  | io u =>
    cases hm
    obtain ⟨a, o, rfl, h1, h2, h3, h4, h5⟩ := r
    obtain ⟨t', h6⟩ := s.li i t hi
    exact ⟨a, o, hv, h1, h2, h3, h4, .inr (.inr ⟨i, t', h6, h5⟩)⟩
theorem SI.put {w : Wd} {σ : L2.St} {e : En} {h : Hs} (s : SI F w σ e h) {i : Nat} {sl : Sl} {t t1 : T} {a : Addr} {o1 : HO} (hi : e[i]? = some sl) (hm : mineT sl = some t) (ha : σ[i]? = some (some (.ref a))) (rc : RepC F.b w t1 o1) :
    SI F { w with H := upd w.H a o1 } σ (e.set i (sl.with t1)) h ∧ Kp w { w with H := upd w.H a o1 } := by
  obtain ⟨a', o, ha', h1, h2, h3, h4, h5⟩ := s.mine hi hm
  rw [ha] at ha'
  cases ha'
  have mo := h2.mut
  have kp : Kp w { w with H := upd w.H a o1 } := ⟨fun b u q n => by
      show upd w.H a o1 b = some u
      rw [upd_ne fun z => by subst z; exact n h3]
      exact q, fun b m _ => m, List.prefix_refl _, fun b us q => by
      show upd w.H a o1 b = some (.tup us)
      rw [upd_ne fun z => by subst z; rw [q] at h1; cases h1; exact mo]
      exact q, fun b o u q => by
      show upd w.H a o1 b = some (.frz o u)
      rw [upd_ne fun z => by subst z; rw [q] at h1; cases h1; exact mo]
      exact q, fun b l => by
      show upd w.H a o1 b ≠ none
      unfold upd
      split
      · simp
      · exact l⟩
  have hil : i < e.length := (List.getElem?_eq_some_iff.mp hi).1
  have mw : ∀ t', mineT (sl.with t') = some t' := fun t' => by cases sl <;> first | rfl | cases hm
  refine ⟨⟨⟨by rw [List.length_set]; exact s.sr.len, fun j s' q => ?_, fun j k s1 s2 b q1 q2 m1 m2 e1 e2 => ?_⟩, ⟨s.hr.len, s.hr.nd, fun n t' q => ?_, s.hr.rm, fun b m => ?_⟩, ⟨fun b u q n => ?_, s.sn.newM, s.sn.oldM, s.sn.pre, s.sn.newR, fun b l => kp.live b (s.sn.live b l)⟩, fun j t' b q1 q2 => ?_, fun j t' q => ?_, s.m0, fun j t' q => ?_⟩, kp⟩
  · by_cases ji : j = i
    · subst ji
      rw [List.getElem?_set_self hil] at q
      cases q
      refine ⟨_, ha, ?_⟩
      obtain ⟨v, hv, r⟩ := s.sr.at_ j sl hi
      cases sl with
      | no => cases hm
      | val u => cases hm
      | own u => exact ⟨a, o1, rfl, upd_same, rc.kp kp, h3, h4⟩
      | io u =>
        obtain ⟨a2, _, e2, _, _, _, _, g⟩ := r
        rw [ha] at hv
        cases hv
        cases e2
        exact ⟨a, o1, rfl, upd_same, rc.kp kp, h3, h4, g⟩
    · rw [List.getElem?_set_ne (Ne.symm ji)] at q
      obtain ⟨v, hv, r⟩ := s.sr.at_ j s' q
      refine ⟨v, hv, ?_⟩
      have other : ∀ b, s'.mine = true → v = some (.ref b) → b ≠ a := fun b ms ev z => by
        subst z
        subst ev
        exact ji (s.sr.apart j i s' sl b q hi ms (mineT_mine hm) hv ha)
      cases s' with
      | no => trivial
      | val u => obtain ⟨x, q, r⟩ := r; exact ⟨x, q, r.kp kp⟩
      | own u =>
        obtain ⟨b, ob, ev, g1, g2, g3, g4⟩ := r
        exact ⟨b, ob, ev, by show upd w.H a o1 b = some ob; rw [upd_ne (other b rfl ev)]; exact g1, g2.kp kp, g3, g4⟩
      | io u =>
        obtain ⟨b, ob, ev, g1, g2, g3, g4, g5⟩ := r
        exact ⟨b, ob, ev, by show upd w.H a o1 b = some ob; rw [upd_ne (other b rfl ev)]; exact g1, g2.kp kp, g3, g4, g5⟩
  · have red : ∀ (j : Nat) (s' : Sl), (e.set i (sl.with t1))[j]? = some s' → s'.mine = true → ∃ s'', e[j]? = some s'' ∧ s''.mine = true := fun j s' q ms => by
      by_cases ji : j = i
      · subst ji
        exact ⟨sl, hi, mineT_mine hm⟩
      · rw [List.getElem?_set_ne (Ne.symm ji)] at q
        exact ⟨s', q, ms⟩
    obtain ⟨z1, q1, m1⟩ := red j s1 q1 m1
    obtain ⟨z2, q2, m2⟩ := red k s2 q2 m2
    exact s.sr.apart j k z1 z2 b q1 q2 m1 m2 e1 e2
  · obtain ⟨b, u, g1, g2, g3⟩ := s.hr.ob n t' q
    refine ⟨b, u, g1, ?_, g3.kp kp⟩
    have ne : b ≠ a := fun z => by subst z; exact h4 (List.mem_of_getElem? g1)
    show upd w.H a o1 b = some u
    rw [upd_ne ne]
    exact g2
  · show Mut (upd w.H a o1 b)
    by_cases z : b = a
    · rw [z, upd_same]; exact rc.mut
    · rw [upd_ne z]; exact s.hr.mm b m
  · show upd w.H a o1 b = some u
    have ne : b ≠ a := fun z => by
      subst z
      rcases h5 with h5 | h5
      · rw [h5] at q; cases q
      · exact n h5
    rw [upd_ne ne]
    exact s.sn.keep b u q n
  · by_cases ji : j = i
    · subst ji
      rw [List.getElem?_set_self hil] at q1
      have : sl = .own t := by
        cases sl with
        | own u => cases hm; rfl
        | io u => cases q1
        | no => cases hm
        | val u => cases hm
      subst this
      exact s.nw j t b hi q2
    · rw [List.getElem?_set_ne (Ne.symm ji)] at q1
      exact s.nw j t' b q1 q2
  · obtain ⟨u, q'⟩ := s.lk j t' q
    by_cases ji : j = i
    · subst ji
      rw [q'] at hi
      cases hi
      exact ⟨t1, by rw [List.getElem?_set_self hil]; rfl⟩
    · exact ⟨u, by rw [List.getElem?_set_ne (Ne.symm ji)]; exact q'⟩
  · by_cases ji : j = i
    · subst ji
      rw [List.getElem?_set_self hil] at q
      have : ∃ u, sl = .io u := by
        cases sl with
        | own u => cases q
        | io u => exact ⟨u, rfl⟩
        | no => cases hm
        | val u => cases hm
      obtain ⟨u, rfl⟩ := this
      exact s.li j u hi
    · rw [List.getElem?_set_ne (Ne.symm ji)] at q
      exact s.li j t' q
/-- the slot's content is now t -/
def putE (e : En) (i : Nat) (t : T) : En := match e[i]? with
  | some s => e.set i (s.with t)
  | none => e
def mineAt (e : En) (i : Nat) : Option T := e[i]?.bind mineT
theorem mineAt_some {e : En} {i : Nat} {t : T} (h : mineAt e i = some t) : ∃ s, e[i]? = some s ∧ mineT s = some t := by
  unfold mineAt at h
  exact Option.bind_eq_some_iff.mp h
theorem SI.put' {w : Wd} {σ : L2.St} {e : En} {h : Hs} (s : SI F w σ e h) {i : Nat} {t t1 : T} {a : Addr} {o1 : HO} (hi : mineAt e i = some t) (ha : σ[i]? = some (some (.ref a))) (rc : RepC F.b w t1 o1) :
    SI F { w with H := upd w.H a o1 } σ (putE e i t1) h ∧ Kp w { w with H := upd w.H a o1 } := by
  obtain ⟨sl, h1, h2⟩ := mineAt_some hi
  have r := s.put h1 h2 ha rc
  unfold putE
  rw [h1]
  exact r

/-! ### a new object of the frame's own -/
def PoF (b : Tb) (w : Wd) (W : XK) (Q : VK) : Res T → Prop
  | .ok t h => ∀ p o w', Es w w' → HR b w' h → w.H p = none → w'.H p = some o → RepC b w' t o → w'.M p → p ∉ w'.ρ → Q (.ref p) w'.H
  | .exc c fs h => ∀ cls d w', Es w w' → HR b w' h → RepX b w' c fs cls d → W cls d w'.H
  | .bad => False
def tF (F : Fr) (m : EM) : TE := fun σ H Q => ∃ w e h, w.H = H ∧ SR F.b w F.ga σ e ∧ HR F.b w h ∧ PoF F.b w (fun c d H => F.W c d σ H) Q (m e h)
theorem PoF.step {b : Tb} {w w1 : Wd} {W : XK} {Q : VK} {r : Res T} (e : Es w w1) (p : PoF b w W Q r) : PoF b w1 W Q r := by
  cases r with
  | ok a h => exact fun q o w' e' hr n => p q o w' (e.trans e') hr (by
      apply Classical.byContradiction
      intro z
      exact e.live q z n)
  | exc c fs h => exact fun cls d w' e' hr q => p cls d w' (e.trans e') hr q
  | bad => exact p
theorem PoF.bind {α γ : Type} {b : Tb} {R : Wd → α → γ → Prop} {w : Wd} {W : XK} {Q : VK} {r : Res α} {f : α → Hs → Res T} (p : PoF b w W Q (r.bind f)) :
    Po b R w W (fun g H1 => ∃ w1 h1 a, w1.H = H1 ∧ Es w w1 ∧ HR b w1 h1 ∧ R w1 a g ∧ PoF b w1 W Q (f a h1)) r := by
  cases r with
  | ok a h => exact fun g w' e hr q => ⟨w', h, a, rfl, e, hr, q, p.step e⟩
  | exc c fs h => exact p
  | bad => exact p
theorem tF.bind {α γ : Type} {R : Wd → α → γ → Prop} {m : En → Hs → Res α} {k : α → En → Hs → Res T} {σ : L2.St} {H : Hp} {Q : VK}
    (p : tF F (fun e h => (m e h).bind fun a h1 => k a e h1) σ H Q) :
    tG F R m σ H fun g H1 => ∃ w1 e h1 a, w1.H = H1 ∧ SR F.b w1 F.ga σ e ∧ HR F.b w1 h1 ∧ R w1 a g ∧ PoF F.b w1 (fun c d H => F.W c d σ H) Q (k a e h1) := by
  obtain ⟨w, e, h, rfl, sr, hr, p⟩ := p
  refine ⟨w, e, h, rfl, sr, hr, Po.mono (PoF.bind (R := R) p) ?_⟩
  rintro g H ⟨w1, h1, a, rfl, es, hr1, ra, q⟩
  exact ⟨w1, e, h1, a, rfl, sr.kp es (hr.kp es), hr1, ra, q⟩
theorem PoF.new {b : Tb} {w : Wd} {h : Hs} {W : XK} {Q : VK} {t : T} {o : HO} {p : Addr} (po : PoF b w W Q (.ok t h)) (hr : HR b w h) (r : RepC b w t o) (n : w.H p = none) : Q (.ref p) (upd w.H p o) := by
  have e0 : Es w { w with H := upd w.H p o } := Es.new n
  have es : Es w { w with M := fun a => w.M a ∨ a = p, H := upd w.H p o } := ⟨e0.keep, fun a m l => by
      rcases m with m | rfl
      · exact m
      · exact absurd n l, fun a m => .inl m, e0.pre, e0.newR, e0.live⟩
  have kp := hr.kp es
  refine po p o { w with M := fun a => w.M a ∨ a = p, H := upd w.H p o } es ⟨hr.len, hr.nd, fun i t q => ?_, fun a m => .inl (hr.rm a m), fun a m => ?_⟩ n upd_same (r.kp kp) (.inr rfl) fun z => ?_
  · obtain ⟨a, u, h1, h2, h3⟩ := hr.ob i t q
    exact ⟨a, u, h1, upd_keep h2 n, h3.kp kp⟩
  · show Mut (upd w.H p o a)
    by_cases z : a = p
    · rw [z, upd_same]; exact r.mut
    · rw [upd_ne z]
      rcases m with m | m
      · exact hr.mm a m
      · exact absurd m z
  · have := mut_ne (hr.mm p (hr.rm p z))
    exact this n
theorem SI.own {w w' : Wd} {σ : L2.St} {e : En} {h h' : Hs} (s : SI F w σ e h) (es : Es w w') (hr : HR F.b w' h') {i : Nat} {sl : Sl} (hi : e[i]? = some sl) (ni : ∀ u, sl ≠ .io u) {p : Addr} {o : HO} {t : T} (n : w.H p = none) (ho : w'.H p = some o) (rc : RepC F.b w' t o) (m : w'.M p) (nr : p ∉ w'.ρ) :
    SI F w' (σ.set i (some (.ref p))) (e.set i (.own t)) h' := by
  have s' := s.es es hr
  have noP := s.sr.noD n
  have hil : i < e.length := (List.getElem?_eq_some_iff.mp hi).1
  have hiσ : i < σ.length := by rw [s.sr.len]; exact hil
  refine ⟨s'.sr.set ⟨sl, hi⟩ ⟨p, o, rfl, ho, rc, m, nr⟩ fun _ j s2 b hj q ms e2 z => ?_, hr, s'.sn, fun j t' b q1 q2 => ?_, fun j t' q => ?_, s.m0, fun j t' q => ?_⟩
  · cases z
    exact noP j s2 q ms e2
  · by_cases ji : j = i
    · subst ji
      rw [List.getElem?_set_self hiσ] at q2
      cases q2
      apply Classical.byContradiction
      intro z
      exact s.sn.live p z n
    · rw [List.getElem?_set_ne (Ne.symm ji)] at q1 q2
      exact s.nw j t' b q1 q2
  · obtain ⟨u, q'⟩ := s.lk j t' q
    by_cases ji : j = i
    · subst ji
      rw [q'] at hi
      cases hi
      exact absurd rfl (ni u)
    · exact ⟨u, by rw [List.getElem?_set_ne (Ne.symm ji)]; exact q'⟩
  · by_cases ji : j = i
    · subst ji
      rw [List.getElem?_set_self hil] at q
      cases q
    · rw [List.getElem?_set_ne (Ne.symm ji)] at q
      exact s.li j t' q
/-- x = a new object, to be written by this frame -/
def newS (i : Nat) (m : EM) : SM := fun e h => (m e h).go e fun t h1 => match e[i]? with
  | some (.io _) => .bad
  | some _ => .nx (e.set i (.own t)) h1
  | none => .bad
theorem x_new {i : Nat} {x : Str} {p' : PySem.Pos} (hN : X.N.Nodup) (hi : X.N[i]? = some x) (hx : Loc X.env.scope x) (he : PE X a (tF F ma)) (hs : swapsWith a (some (.Name x p')) pos.line X.env = pure false := by rfl)
    (hf : X.fn x = true ∨ X.env.scope.names.lookup x = some .local := by first | exact .inl rfl | exact .inr rfl | assumption) : PS X (.Assign [.Name x p'] a pos) (tS F (newS i ma)) := by
  refine wkS (ps_set hN hi hx he hs hf) ?_
  rintro D σ H ⟨w, e, h, rfl, s, p⟩
  have p : PoS F w D ((ma e h).go e fun t h1 => match e[i]? with
    | some (.io _) => .bad
    | some _ => .nx (e.set i (.own t)) h1
    | none => .bad) := p
  refine ⟨w, e, h, rfl, s.sr, s.hr, ?_⟩
  generalize ma e h = r at p ⊢
  cases r with
  | ok t h1 =>
    intro q o w' es hr n ho rc mq nr
    have p : PoS F w D (match e[i]? with
      | some (.io _) => .bad
      | some _ => .nx (e.set i (.own t)) h1
      | none => .bad) := p
    split at p
    · exact p.elim
    · rename_i sl ni hsl
      exact p _ w' (s.own es hr hsl (fun u z => ni u z) n ho rc mq nr) (s.hr.kp es)
    · exact p.elim
  | exc c fs h1 => exact fun cls d w' es hr q => p cls d σ w' (s.es es hr) (s.hr.kp es) q
  | bad => exact p

/-! ### fresh lists and dicts -/
variable {es : List Expr}
theorem f_lst (h : PA X es (tA F am)) : PE X (.List es pos) (tF F (lstM am)) := by
  refine wkE (pe_lst h) fun σ H Q p => ?_
  refine tG.mono (tF.bind (R := RepL F.b) (k := fun xs _ h1 => if fits xs.length then .ok (.lst xs) h1 else .bad) p) ?_
  rintro vs H1 ⟨w1, e, h1, xs, rfl, sr1, hr1, r1, p1⟩
  split at p1
  · rename_i hf
    refine ⟨?_, fun q n => p1.new hr1 ⟨vs, rfl, r1⟩ n⟩
    rw [r1.len]
    exact of_decide_eq_true hf
  · exact p1.elim
def dict0 : EM := fun _ h => .ok (.dt [] []) h
def dict0k : EM := fun _ h => .ok (.dk [] []) h
theorem f_dict0 : PE X (.Dict [] [] pos) (tF F dict0) := by
  refine wkE pe_dnewT ?_
  rintro σ H Q ⟨w, e, h, rfl, sr, hr, p⟩
  exact fun q n => PoF.new p hr ⟨[], rfl, rfl, RepL.nil⟩ n
theorem f_dict0k : PE X (.Dict [] [] pos) (tF F dict0k) := by
  refine wkE pe_dnewK ?_
  rintro σ H Q ⟨w, e, h, rfl, sr, hr, p⟩
  exact fun q n => PoF.new p hr ⟨[], rfl, rfl, RepL.nil⟩ n
theorem f_rev {k : Nat} {p1 p2 p3 : PySem.Pos} (ha : PE X a (tB F ma)) : PE X (.Subscript a (.Slice none none (some (.UnaryOp .USub (.Constant (.int 1) k p1) p2)) p3) pos) (tF F (revM ma)) := by
  refine wkE (pe_revL ha) fun σ H Q z => ?_
  refine tG.mono (tF.bind (R := RepB F.b) (k := fun t _ h1 => match lstOf h1 t with
    | some xs => .ok (.lst xs.reverse) h1
    | none => .bad) z) ?_
  rintro x H1 ⟨w1, e, h1, tx, rfl, sr1, hr1, r1, p1⟩
  split at p1
  · rename_i xs q
    obtain ⟨a, vs, rfl, hv, l⟩ := lstOf_rep hr1 q r1
    exact ⟨a, vs, rfl, SqL.of hv, fun p' n => p1.new hr1 ⟨_, rfl, l.rev⟩ n⟩
  · exact p1.elim
theorem f_list {x : Str} (hK : X.K = F.b.K) (hg : Gl X x) (hm : X.mg x = none) (hv : bootBuiltins x = some (.type "list")) (ha : PE X a (tB F ma)) (hn : x ≠ "__name__" := by decide) (hdb : (x == ("__debug__" : Str)) = false := by decide)
    (he : starEach [a] X.env = (false, eval a X.env) :: starEach [] X.env := by rfl) : PE X (.Call (.Name x p) [a] [] pos) (tF F (callBM listF (acons ma anil))) := by
  refine wkE (pe_callTy call_list_of hg hm hv (pa_cons ha pa_nil he) hn hdb he rfl) fun σ H Q z => ?_
  have z : tF F (fun e h => (ma e h).bind fun x h1 => listF [x] h1) σ H Q := by
    obtain ⟨w, e, h, z1, z2, z3, z4⟩ := z
    refine ⟨w, e, h, z1, z2, z3, ?_⟩
    have z4 : PoF F.b w (fun c d H => F.W c d σ H) Q (((ma e h).bind fun x h1 => (anil e h1).bind fun xs h2 => .ok (x :: xs) h2).bind listF) := z4
    show PoF F.b w (fun c d H => F.W c d σ H) Q ((ma e h).bind fun x h1 => listF [x] h1)
    generalize ma e h = r at z4 ⊢
    cases r <;> exact z4
  refine tG.mono (tF.bind (R := RepB F.b) (k := fun x _ h1 => listF [x] h1) z) ?_
  rintro x H1 ⟨w1, e, h1, tx, rfl, sr1, hr1, r1, p1⟩
  have p1 : PoF F.b w1 (fun c d H => F.W c d σ H) Q (match seqOf h1 tx with
    | some xs => .ok (.lst xs) h1
    | none => .bad) := p1
  split at p1
  · rename_i xs q
    obtain ⟨a, us, rfl, hv, l⟩ := seqOf_rep hr1 q r1
    rw [← hK] at hv
    exact ⟨a, us, rfl, hv, fun p' n => p1.new hr1 ⟨us, rfl, l⟩ n⟩
  · exact p1.elim

/-! ### methods of the frame's own lists and dicts -/
/-- x.append(e) -/
def appS (i : Nat) (m : EM) : SM := fun e h => match mineAt e i with
  | some (.lst xs) => (m e h).go e fun t h1 => if decide (xs.length < sizeLine) then .nx (putE e i (.lst (xs ++ [t]))) h1 else .bad
  | _ => .bad
theorem mine_lst {w : Wd} {σ : L2.St} {e : En} {h : Hs} (s : SI F w σ e h) {i : Nat} {xs : List T} (hi : mineAt e i = some (.lst xs)) : ∃ a vs, σ[i]? = some (some (.ref a)) ∧ w.H a = some (.lst vs) ∧ RepL F.b w xs vs := by
  obtain ⟨sl, h1, h2⟩ := mineAt_some hi
  obtain ⟨a, o, h3, h4, h5, _⟩ := s.mine h1 h2
  obtain ⟨vs, rfl, r⟩ := h5
  exact ⟨a, vs, h3, h4, r⟩
theorem x_app {i : Nat} {x : Str} {p1 : PySem.Pos} (hv : PE X (.Name x p) (tVar i)) (ha : PE X a (tE F ma)) (hs : swapsWith (.Call (.Attribute (.Name x p) "append" p1) [a] [] q) none pos.line X.env = pure false := by rfl)
    (he : starEach [a] X.env = (false, eval a X.env) :: starEach [] X.env := by rfl)
    (hpe : ∀ {r t}, MtR X "list.append" r → PA X [a] t → PE X (.Call (.Attribute (.Name x p) "append" p1) [a] [] q) (tBM X.K "list" r (tVar i) t) := by exact fun hm h => pe_bm PySem.F.plainAttrs_list PySem.F.slot_list_append PySem.F.type_list_append hm hv h) :
    PS X (.Expr (.Call (.Attribute (.Name x p) "append" p1) [a] [] q) pos) (tS F (appS i ma)) := by
  refine wkS (ps_expr (hpe mt_append (pa_cons ha pa_nil he)) hs) fun D σ H z => ?_
  obtain ⟨w, e, h, rfl, s, p⟩ := z
  unfold appS at p
  split at p
  · rename_i xs hml
    obtain ⟨a0, vs, h3, h4, r⟩ := mine_lst s hml
    refine ⟨.ref a0, h3, .inl ⟨rfl, vs, SqL.of h4⟩, ?_⟩
    refine ⟨w, e, h, rfl, s.sr, s.hr, ?_⟩
    generalize ma e h = r at p ⊢
    cases r with
    | ok t h1 =>
      intro v w1 es hr r1
      have s1 := s.es es hr
      have p1 := PoS.step (s.hr.kp es) p
      rw [Res.go_ok] at p1
      split at p1
      · rename_i hf
        obtain ⟨a1, us, g3, g4, g⟩ := mine_lst s1 hml
        rw [h3] at g3
        cases g3
        refine ⟨a0, us, v, rfl, rfl, g4, ?_, ?_⟩
        · rw [g.len]; exact of_decide_eq_true hf
        · obtain ⟨s2, k2⟩ := s1.put' (t1 := .lst (xs ++ [t])) (o1 := .lst (us ++ [v])) hml h3 ⟨_, rfl, g.app (RepL.one r1)⟩
          exact p1 σ _ s2 k2
      · exact p1.elim
    | exc c fs h1 => exact fun cls d w' es hr q => p cls d σ w' (s.es es hr) (s.hr.kp es) q
    | bad => exact p
  · exact p.elim
end
end Y
/-! Y10: promises of defs; calls, methods, fields, instances. -/
namespace Y
open PySem L2

/-! ### what a def promises -/
def ltc (w : Wd) (as : List Sl) (vs : List V) (a : Addr) : Prop := a ∈ w.ρ ∨ ∃ (i : Nat) (t : T), as[i]? = some (.own t) ∧ vs[i]? = some (.ref a)
/-- what is lent, behind the call -/
def Lent (b : Tb) (w : Wd) (as : List Sl) (vs : List V) (e : En) : Prop :=
  ∀ (i : Nat) (t : T), as[i]? = some (.own t) → ∃ t' a o, e[i]? = some (.io t') ∧ vs[i]? = some (.ref a) ∧ w.H a = some o ∧ RepC b w t' o ∧ w.M a ∧ a ∉ w.ρ
def PoG (b : Tb) (w : Wd) (as : List Sl) (vs : List V) (Q : VK) (E : XK) : SRes → Prop
  | .nx e h => ∀ w', Ev (ltc w as vs) w w' → HR b w' h → Lent b w' as vs e → Q .non w'.H
  | .rt t e h => ∀ v w', Ev (ltc w as vs) w w' → HR b w' h → Lent b w' as vs e → Rep b w' t v → Q v w'.H
  | .exc c fs e h => ∀ cls d w', Ev (ltc w as vs) w w' → HR b w' h → Lent b w' as vs e → RepX b w' c fs cls d → E cls d w'.H
  | _ => False
def argS : Sl → Bool
  | .val _ => true
  | .own _ => true
  | _ => false
def spG (b : Tb) (n : Nat) (cf : List Sl → Hs → SRes) : Sp := fun vs H Q E =>
  ∃ w h as, w.H = H ∧ HR b w h ∧ SR b w [] (vs.map some) as ∧ as.length = n ∧ (∀ s ∈ as, argS s = true) ∧ PoG b w as vs Q E (cf as h)
def lend : Sl → Sl
  | .own t => .io t
  | s => s
def env0 (k : Nat) (as : List Sl) : En := as.map lend ++ List.replicate k .no
/-- the body as what it does with its arguments -/
def fnS (k : Nat) (m : SM) : List Sl → Hs → SRes := fun as h => m (env0 k as) h

theorem env0_lt {k : Nat} {as : List Sl} {i : Nat} (h : i < as.length) : (env0 k as)[i]? = (as[i]?).map lend := by
  unfold env0
  rw [List.getElem?_append_left (by rw [List.length_map]; exact h), List.getElem?_map]
theorem env0_ge {k : Nat} {as : List Sl} {i : Nat} {s : Sl} (h : as.length ≤ i) (e : (env0 k as)[i]? = some s) : s = .no := by
  unfold env0 at e
  rw [List.getElem?_append_right (by rw [List.length_map]; exact h), List.getElem?_replicate] at e
  split at e
  · cases e; rfl
  · cases e
theorem SI.start {F : Fr} {N : List Str} {h : Hs} (hr : HR F.b F.w0 h) (sr : SR F.b F.w0 [] (F.ga.map some) F.as) (ha : ∀ s ∈ F.as, argS s = true) (hl : F.as.length ≤ N.length) :
    SI F F.w0 (L2.start N F.ga) (env0 (N.length - F.as.length) F.as) h := by
  have gl : F.ga.length = F.as.length := by
    have := sr.len
    rwa [List.length_map] at this
  have st : ∀ i, i < F.as.length → (L2.start N F.ga)[i]? = (F.ga.map some)[i]? := fun i hi => by
    unfold L2.start
    rw [List.getElem?_append_left (by rw [List.length_map, gl]; exact hi)]
  have no : ∀ (i : Nat) (s : Sl), F.as.length ≤ i → (env0 (N.length - F.as.length) F.as)[i]? = some s → s = .no := fun i s h e => env0_ge h e
  have bk : ∀ (i : Nat) (s : Sl), (env0 (N.length - F.as.length) F.as)[i]? = some s → s.mine = true → ∃ t, F.as[i]? = some (.own t) ∧ s = .io t := fun i s q ms => by
    by_cases hi : i < F.as.length
    · rw [env0_lt hi] at q
      obtain ⟨s0, q0, rfl⟩ := Option.map_eq_some_iff.mp q
      have := ha s0 (List.mem_of_getElem? q0)
      cases s0 with
      | own t => exact ⟨t, q0, rfl⟩
      | val t => cases ms
      | no => cases this
      | io t => cases this
    · rw [no i s (by omega) q] at ms
      cases ms
  refine ⟨⟨?_, fun i s q => ?_, fun i j s s' a q1 q2 m1 m2 e1 e2 => ?_⟩, hr, Ev.refl, fun i t a q1 _ => ?_, fun i t q => ?_, fun a m => mut_ne (hr.mm a m), fun i t q => ?_⟩
  · unfold L2.start env0
    rw [List.length_append, List.length_append, List.length_map, List.length_map, List.length_replicate, List.length_replicate, gl]
  · by_cases hi : i < F.as.length
    · rw [env0_lt hi] at q
      obtain ⟨s0, q0, rfl⟩ := Option.map_eq_some_iff.mp q
      obtain ⟨v, hv, r⟩ := sr.at_ i s0 q0
      refine ⟨v, (st i hi).trans hv, ?_⟩
      have := ha s0 (List.mem_of_getElem? q0)
      cases s0 with
      | val t => exact r
      | own t =>
        obtain ⟨a, o, rfl, h1, h2, h3, h4⟩ := r
        refine ⟨a, o, rfl, h1, h2, h3, h4, ?_⟩
        rw [List.getElem?_map] at hv
        obtain ⟨u, hu, e⟩ := Option.map_eq_some_iff.mp hv
        cases e
        exact hu
      | no => cases this
      | io t => cases this
    · have e := no i s (by omega) q
      subst e
      have hlen : i < N.length := by
        have := (List.getElem?_eq_some_iff.mp q).1
        unfold env0 at this
        rw [List.length_append, List.length_map, List.length_replicate] at this
        omega
      refine ⟨none, ?_, trivial⟩
      unfold L2.start
      rw [List.getElem?_append_right (by rw [List.length_map, gl]; omega), List.getElem?_replicate, List.length_map, if_pos (by rw [gl]; omega)]
  · obtain ⟨t1, b1, rfl⟩ := bk i s q1 m1
    obtain ⟨t2, b2, rfl⟩ := bk j s' q2 m2
    have i1 : i < F.as.length := (List.getElem?_eq_some_iff.mp b1).1
    have i2 : j < F.as.length := (List.getElem?_eq_some_iff.mp b2).1
    rw [st i i1] at e1
    rw [st j i2] at e2
    exact sr.apart i j _ _ a b1 b2 rfl rfl e1 e2
  · obtain ⟨t', b1, e⟩ := bk i _ q1 rfl
    cases e
  · have i1 : i < F.as.length := (List.getElem?_eq_some_iff.mp q).1
    exact ⟨t, by rw [env0_lt i1, q]; rfl⟩
  · obtain ⟨t', b1, e⟩ := bk i _ q rfl
    exact ⟨t', b1⟩
theorem SI.lent {F : Fr} {w : Wd} {σ : L2.St} {e : En} {h : Hs} (s : SI F w σ e h) : Lent F.b w F.as F.ga e := fun i t q => by
  obtain ⟨t', q'⟩ := s.lk i t q
  obtain ⟨v, hv, a, o, rfl, h1, h2, h3, h4, h5⟩ := s.sr.at_ i _ q'
  exact ⟨t', a, o, q', h5, h1, h2, h3, h4⟩
theorem PoG.body {F : Fr} {Q : VK} {E : XK} {r : SRes} (hW : ∀ c d σ H, E c d H → F.W c d σ H) (p : PoG F.b F.w0 F.as F.ga Q E r) : PoS F F.w0 { nx := fun _ H' => Q .non H', rt := Q } r := by
  have ev : ∀ {w'}, Ev F.tc F.w0 w' → Ev (ltc F.w0 F.as F.ga) F.w0 w' := fun e => e
  cases r with
  | nx e h => exact fun σ' w' s k => p w' (ev s.sn) s.hr s.lent
  | rt t e h => exact fun v σ' w' s k r => p v w' (ev s.sn) s.hr s.lent r
  | exc c fs e h => exact fun cls d σ' w' s k r => hW _ _ _ _ (p cls d w' (ev s.sn) s.hr s.lent r)
  | brk e h => exact p.elim
  | cnt e h => exact p.elim
  | bad => exact p.elim

section
variable {P : Program} {w : World} {K : PySem.W.Frag} {mg : Str → Option Value} {base : Heap} {b : Tb}
/-- the frame of a def's body -/
def frOf (b : Tb) (vs : List V) (E : XK) (w0 : Wd) (as : List Sl) : Fr := ⟨b, vs, fun c d _ H => E c d H, w0, as⟩
/-- THE RULE for a def -/
theorem fn_ok {x qual : Str} {st : Stmt} {f : Addr} {fd : FuncData} {N ps : List Str} {k : Nat} {m : SM} (F : Fun K x qual st f fd) (S : FnScope N ps (defScope st))
    (hb : ∀ (cdv : Value) (A : Around) (outer : List Env) (s : Shared) (H : Hp) (E : XK) (F : Fr), F.b = b → Room k (A.deeper (PyProof.Rows.envOfC qual (defScope st) s.heap.objs.size f cdv)) →
      Takes (cxOf (L2.CX P w) P w K mg base N qual (defScope st) f cdv A outer s H E) F.W → PSs (cxOf (L2.CX P w) P w K mg base N qual (defScope st) f cdv A outer s H E) (defBody st) (tS F m)) :
    FnOk P w K mg base (L2.CX P w) (k + 1) f fd ps (spG b ps.length (fnS (N.length - ps.length) m)) := by
  refine F.okX S (fun vs H Q E q => ?_) fun cdv A outer s H vs Q E hr hsp => ?_
  · obtain ⟨w0, h, as, _, _, sr, hl, _⟩ := q
    have := sr.len
    rw [List.length_map] at this
    omega
  · obtain ⟨w0, h, as, rfl, hr0, sr, hl, ha, p⟩ := hsp
    refine ⟨_, hb cdv A outer s w0.H E (frOf b vs E w0 as) rfl hr (takes_of rfl rfl rfl rfl), ?_⟩
    have hpl : ps.length ≤ N.length := by have := congrArg List.length S.pre; rw [List.length_take] at this; omega
    have si := SI.start (F := frOf b vs E w0 as) (N := N) hr0 sr ha (show as.length ≤ N.length by omega)
    refine ⟨w0, _, h, rfl, si, PoG.body (F := frOf b vs E w0 as) (E := E) (fun _ _ _ _ z => z) ?_⟩
    show PoG b w0 as vs Q E (m (env0 (N.length - as.length) as) h)
    rw [hl]
    exact p
end

/-! ### promises by values -/
def SRes.val : SRes → Res T
  | .nx _ h => .ok .non h
  | .rt t _ h => .ok t h
  | .exc c fs _ h => .exc c fs h
  | _ => .bad
def spV (b : Tb) (n : Nat) (cv : List T → Hs → Res T) : Sp := fun vs H Q E => ∃ w h ts, w.H = H ∧ HR b w h ∧ RepL b w ts vs ∧ ts.length = n ∧ Po b (Rep b) w E Q (cv ts h)
def fnV (k : Nat) (m : SM) : List T → Hs → Res T := fun ts h => (m (ts.map Sl.val ++ List.replicate k .no) h).val
theorem SR.vals {b : Tb} {w : Wd} {ts : List T} {vs : List V} (r : RepL b w ts vs) : SR b w [] (vs.map some) (ts.map Sl.val) := by
  refine ⟨by rw [List.length_map, List.length_map]; exact r.len, fun i s q => ?_, fun i j s s' a q1 q2 m1 m2 e1 e2 => ?_⟩
  · rw [List.getElem?_map] at q
    obtain ⟨t, qt, rfl⟩ := Option.map_eq_some_iff.mp q
    obtain ⟨v, hv, rv⟩ := r.get qt
    exact ⟨some v, by rw [List.getElem?_map, hv]; rfl, v, rfl, rv⟩
  · rw [List.getElem?_map] at q1
    obtain ⟨t, qt, rfl⟩ := Option.map_eq_some_iff.mp q1
    cases m1
theorem lend_vals (ts : List T) : (ts.map Sl.val).map lend = ts.map Sl.val := by
  rw [List.map_map]
  rfl
theorem no_own {ts : List T} {i : Nat} {t : T} : (ts.map Sl.val)[i]? ≠ some (.own t) := fun z => by
  rw [List.getElem?_map] at z
  obtain ⟨u, _, e⟩ := Option.map_eq_some_iff.mp z
  cases e
theorem sp_vals {b : Tb} {n k : Nat} {m : SM} {cv : List T → Hs → Res T} (hc : ∀ ts h, ts.length = n → fnV k m ts h = cv ts h) (vs : List V) (H : Hp) (Q : VK) (E : XK) (q : spV b n cv vs H Q E) : spG b n (fnS k m) vs H Q E := by
  obtain ⟨w, h, ts, rfl, hr, r, hl, p⟩ := q
  refine ⟨w, h, ts.map Sl.val, rfl, hr, SR.vals r, by rw [List.length_map]; exact hl, fun s hs => ?_, ?_⟩
  · obtain ⟨t, _, rfl⟩ := List.mem_map.mp hs
    rfl
  · rw [← hc ts h hl] at p
    unfold fnS env0
    rw [lend_vals]
    unfold fnV at p
    have ev : ∀ {w'}, Ev (ltc w (ts.map Sl.val) vs) w w' → Es w w' := fun e => e.mono fun a z => by
      rcases z with z | ⟨i, t, z, _⟩
      · exact z
      · exact absurd z no_own
    generalize m (ts.map Sl.val ++ List.replicate k .no) h = r' at p ⊢
    cases r' with
    | nx e h' => exact fun w' e' hr' _ => p .non w' (ev e') hr' (by unfold Rep; rfl)
    | rt t e h' => exact fun v w' e' hr' _ rv => p v w' (ev e') hr' rv
    | exc c fs e h' => exact fun cls d w' e' hr' _ rx => p cls d w' (ev e') hr' rx
    | brk e h' => exact p
    | cnt e h' => exact p
    | bad => exact p

/-! ### calls -/
/-- a def under its name: n parameters, the last ones' defaults dts -/
structure Dn (P : Program) (w : World) (K : PySem.W.Frag) (mg : Str → Option Value) (base : Heap) (b : Tb) (x : Str) (n : Nat) (dts : List T) (k : Nat) (cv : List T → Hs → Res T) : Prop where
  ex : ∃ f fd ps ds dvs, FnOk P w K mg base (L2.CX P w) k f fd ps (spV b n cv) ∧ mg x = some (.ref f) ∧ PySem.W.keepIn K (.ref f) = true ∧ Binds K fd ps ds ∧ Vals dvs ds ∧ ∀ w, RepL b w dts dvs
theorem Dn.mono {P : Program} {w : World} {K : PySem.W.Frag} {mg : Str → Option Value} {base : Heap} {b : Tb} {x : Str} {n : Nat} {dts : List T} {j k : Nat} {cv : List T → Hs → Res T} (D : Dn P w K mg base b x n dts j cv) (h : j ≤ k) : Dn P w K mg base b x n dts k cv := by
  obtain ⟨f, fd, ps, ds, dvs, F, r⟩ := D.ex
  exact ⟨f, fd, ps, ds, dvs, F.mono h, r⟩
theorem Dn.imp {P : Program} {w : World} {K : PySem.W.Frag} {mg : Str → Option Value} {base : Heap} {b : Tb} {x : Str} {n : Nat} {dts : List T} {k : Nat} {cv cv' : List T → Hs → Res T} (D : Dn P w K mg base b x n dts k cv) (h : ∀ ts h, ts.length = n → cv ts h = cv' ts h) : Dn P w K mg base b x n dts k cv' := by
  obtain ⟨f, fd, ps, ds, dvs, F, r⟩ := D.ex
  refine ⟨f, fd, ps, ds, dvs, F.imp fun vs H Q E z => ?_, r⟩
  obtain ⟨w1, h1, ts, e, hr, rr, hl, p⟩ := z
  exact ⟨w1, h1, ts, e, hr, rr, hl, by rw [h ts h1 hl]; exact p⟩
/-- no defaults: from the def's promise -/
theorem Dn.mk0 {P : Program} {w : World} {K : PySem.W.Frag} {mg : Str → Option Value} {base : Heap} {b : Tb} {x : Str} {n k k' : Nat} {m : SM} {f : Addr} {fd : FuncData} {ps : List Str}
    (F : FnOk P w K mg base (L2.CX P w) k f fd ps (spG b n (fnS k' m))) (hm : mg x = some (.ref f)) (hk : PySem.W.keepIn K (.ref f) = true) (hb : Binds K fd ps []) : Dn P w K mg base b x n [] k (fnV k' m) :=
  ⟨f, fd, ps, [], [], F.imp (sp_vals fun _ _ _ => rfl), hm, hk, hb, .nil, fun _ => RepL.nil⟩

def callM (n : Nat) (dts : List T) (cv : List T → Hs → Res T) (am : AM) : EM := fun e h => (am e h).bind fun ts h1 => if (ts ++ dts).length = n then cv (ts ++ dts) h1 else .bad
section
variable {X : Cx} {F : Fr} {pos p apos : PySem.Pos} {a e o : Expr} {es : List Expr} {ma mo : EM} {am : AM} {n k : Nat} {dts : List T} {cv : List T → Hs → Res T} {x : Str} {W : WX}
theorem t_call {dvs : List V} (hdr : ∀ w, RepL F.b w dts dvs) {σ : L2.St} {H : Hp} {Q : VK} (q : tE F (callM n dts cv am) σ H Q) : tCallSD (spV F.b n cv) dvs (WE F.W) (tA F am) σ H Q := by
  refine tG.mono (tG.bind (R := RepL F.b) (k := fun ts _ h1 => if (ts ++ dts).length = n then cv (ts ++ dts) h1 else .bad) q) ?_
  rintro vs H1 ⟨w1, e, h1, ts, rfl, sr1, hr1, r1, p1⟩
  split at p1
  · rename_i hl
    exact ⟨w1, h1, ts ++ dts, rfl, hr1, r1.app (hdr w1), hl, p1⟩
  · exact (show False from p1).elim
theorem s_call (D : Dn X.prog X.w X.K X.mg X.base F.b x n dts k cv) (hr : Room k X.A) (hg : Gl X x) (tk : Takes X F.W) (ha : PA X (e :: es) (tA F am)) (hdb : (x == ("__debug__" : Str)) = false := by decide)
    (he : starEach (e :: es) X.env = (false, eval e X.env) :: starEach es X.env := by rfl) (hpl : (backTo pos (starEach es X.env)).any (·.1) = false := by rfl) : PE X (.Call (.Name x p) (e :: es) [] pos) (tE F (callM n dts cv am)) := by
  obtain ⟨f, fd, ps, ds, dvs, Fn, hm, hk, hb, hd, hdr⟩ := D.ex
  exact wkE (pe_callSD Fn hr hg hm hk hb hd (fun σ => passAt tk σ) ha hdb he hpl) fun σ H Q q => t_call hdr q

/-! ### fields -/
def insOf (h : Hs) : T → Option (Nat × List Str × List T)
  | .ins c ks ts => some (c, ks, ts)
  | .ref n => match h[n]? with
    | some (.ins c ks ts) => some (c, ks, ts)
    | _ => none
  | _ => none
theorem insOf_rep {b : Tb} {w : Wd} {h : Hs} (hr : HR b w h) {t : T} {v : V} {c : Nat} {ks : List Str} {ts : List T} (e : insOf h t = some (c, ks, ts)) (r : RepB b w t v) :
    ∃ a dx fs, v = .ref a ∧ w.H a = some (.ins (b.C c) dx fs) ∧ fs.map (·.1) = ks ∧ RepL b w ts (fs.map (·.2)) := by
  cases t with
  | ins c' ks' ts' =>
    cases e
    obtain ⟨a, dx, fs, e, h1, _, h2, h3⟩ := r
    exact ⟨a, dx, fs, e, h1, h2, h3⟩
  | ref n =>
    have r : Rep b w (.ref n) v := r
    unfold Rep at r
    obtain ⟨a, e1, h1⟩ := r
    have e' : (match h[n]? with
      | some (.ins c ks ts) => some (c, ks, ts)
      | _ => none) = some (c, ks, ts) := e
    split at e'
    · rename_i c' ks' ts' q
      cases e'
      obtain ⟨a', u, g1, g2, g3⟩ := hr.ob n _ q
      rw [h1] at g1
      cases g1
      unfold RepC at g3
      obtain ⟨dx, fs, rfl, g3, g4⟩ := g3
      exact ⟨a, dx, fs, e1, g2, g3, g4⟩
    · cases e'
  | _ => cases e
def lookF : List Str → List T → Str → Option T
  | k :: ks, t :: ts, f => if (f == k) = true then some t else lookF ks ts f
  | _, _, _ => none
theorem lookF_rep {b : Tb} {w : Wd} {f : Str} {t : T} : ∀ {fs : List (Str × V)} {ks : List Str} {ts : List T}, fs.map (·.1) = ks → RepL b w ts (fs.map (·.2)) → lookF ks ts f = some t → ∃ v, fs.lookup f = some v ∧ Rep b w t v
  | [], ks, ts, e, r, q => by
    subst e
    unfold lookF at q
    cases q
  | (k, u) :: fs, ks, ts, e, r, q => by
    subst e
    cases ts with
    | nil =>
      unfold RepL at r
      cases r
    | cons t' ts =>
      obtain ⟨v, vs, e, r1, r2⟩ := r.uncons
      cases e
      have q : (if (f == k) = true then some t' else lookF (fs.map (·.1)) ts f) = some t := q
      rw [List.lookup_cons]
      split at q
      · rename_i hk
        cases q
        rw [hk]
        exact ⟨u, rfl, r1⟩
      · rename_i hk
        rw [Bool.not_eq_true] at hk
        rw [hk]
        exact lookF_rep rfl r2 q
theorem no_field {f : Str} : ∀ {fs : List (Str × V)}, (fs.map (·.1)).contains f = false → fs.lookup f = none
  | [], _ => rfl
  | (k, u) :: fs, h => by
    rw [List.map_cons, List.contains_cons, Bool.or_eq_false_iff] at h
    rw [List.lookup_cons, h.1]
    exact no_field h.2
def fldF (c : Nat) (f : Str) (t : T) (h : Hs) : Res T := match insOf h t with
  | some (c', ks, ts) => if c' = c then match lookF ks ts f with
    | some u => .ok u h
    | none => .bad else .bad
  | none => .bad
def fldM (c : Nat) (f : Str) (m : EM) : EM := fun e h => (m e h).bind fun t h1 => fldF c f t h1
theorem s_fld {c : Nat} {f : Str} (hc : Cls X.K (F.b.C c)) (hn : NoAttr X.K (F.b.C c) f) (ha : PE X a (tB F ma)) (hb : attributeBase a f X.env (eval a X.env) = eval a X.env := by rfl) : PE X (.Attribute a f pos) (tE F (fldM c f ma)) := by
  refine wkE (pe_fld ha hb) fun σ H Q q => ?_
  refine tG.mono (tG.bind (R := RepB F.b) (k := fun t _ h1 => fldF c f t h1) q) ?_
  rintro x H1 ⟨w1, e, h1, t, rfl, sr1, hr1, r1, p1⟩
  unfold fldF at p1
  split at p1
  · rename_i c' ks ts qi
    split at p1
    · rename_i hcc
      subst hcc
      split at p1
      · rename_i u ql
        obtain ⟨a0, dx, fs, rfl, h2, h3, h4⟩ := insOf_rep hr1 qi r1
        obtain ⟨v, hv, rv⟩ := lookF_rep h3 h4 ql
        exact ⟨a0, F.b.C c', dx, fs, v, rfl, h2, hc, hn, hv, p1.fin hr1 rv⟩
      · exact (show False from p1).elim
    · exact (show False from p1).elim
  · exact (show False from p1).elim

/-! ### methods -/
/-- a method: self is the first of n parameters -/
structure Mn (P : Program) (w : World) (K : PySem.W.Frag) (mg : Str → Option Value) (base : Heap) (b : Tb) (c : Nat) (x : Str) (n : Nat) (dts : List T) (k : Nat) (cv : List T → Hs → Res T) : Prop where
  ex : ∃ f fd ps ds dvs, FnOk P w K mg base (L2.CX P w) k f fd ps (spV b n cv) ∧ Cls K (b.C c) ∧ Meth K (b.C c) x f ∧ Binds K fd ps ds ∧ Vals dvs ds ∧ ∀ w, RepL b w dts dvs
theorem Mn.mono {P : Program} {w : World} {K : PySem.W.Frag} {mg : Str → Option Value} {base : Heap} {b : Tb} {c : Nat} {x : Str} {n : Nat} {dts : List T} {j k : Nat} {cv : List T → Hs → Res T} (D : Mn P w K mg base b c x n dts j cv) (h : j ≤ k) : Mn P w K mg base b c x n dts k cv := by
  obtain ⟨f, fd, ps, ds, dvs, F, r⟩ := D.ex
  exact ⟨f, fd, ps, ds, dvs, F.mono h, r⟩
theorem Mn.imp {P : Program} {w : World} {K : PySem.W.Frag} {mg : Str → Option Value} {base : Heap} {b : Tb} {c : Nat} {x : Str} {n : Nat} {dts : List T} {k : Nat} {cv cv' : List T → Hs → Res T} (D : Mn P w K mg base b c x n dts k cv) (h : ∀ ts h, ts.length = n → cv ts h = cv' ts h) : Mn P w K mg base b c x n dts k cv' := by
  obtain ⟨f, fd, ps, ds, dvs, F, r⟩ := D.ex
  refine ⟨f, fd, ps, ds, dvs, F.imp fun vs H Q E z => ?_, r⟩
  obtain ⟨w1, h1, ts, e, hr, rr, hl, p⟩ := z
  exact ⟨w1, h1, ts, e, hr, rr, hl, by rw [h ts h1 hl]; exact p⟩
theorem Mn.mk0 {P : Program} {w : World} {K : PySem.W.Frag} {mg : Str → Option Value} {base : Heap} {b : Tb} {c : Nat} {x : Str} {n k k' : Nat} {m : SM} {f : Addr} {fd : FuncData} {ps : List Str}
    (F : FnOk P w K mg base (L2.CX P w) k f fd ps (spG b n (fnS k' m))) (hc : Cls K (b.C c)) (hm : Meth K (b.C c) x f) (hb : Binds K fd ps []) : Mn P w K mg base b c x n [] k (fnV k' m) :=
  ⟨f, fd, ps, [], [], F.imp (sp_vals fun _ _ _ => rfl), hc, hm, hb, .nil, fun _ => RepL.nil⟩
def methM (c : Nat) (x : Str) (n : Nat) (dts : List T) (cv : List T → Hs → Res T) (mo : EM) (am : AM) : EM := fun e h => (mo e h).bind fun o h1 => match insOf h1 o with
  | some (c', ks, _) => if c' = c ∧ ks.contains x = false then (am e h1).bind fun ts h2 => if (o :: (ts ++ dts)).length = n then cv (o :: (ts ++ dts)) h2 else .bad else .bad
  | none => .bad
/-- o.m(..), what is raised wished for at the slots -/
def tMethS (C : Addr) (m : Str) (sp : Sp) (dvs : List V) (E : L2.St → XK) (ta : TE) (t : TA) : TE := fun σ H Q => ta σ H fun x H1 => ∃ a dx fs, x = .ref a ∧ H1 a = some (.ins C dx fs) ∧ fs.lookup m = none ∧
  t σ H1 fun vs H2 => sp (x :: (vs ++ dvs)) H2 Q (E σ)
section
variable {CX : CXT} {f C : Addr} {fd : FuncData} {ps : List Str} {sp : Sp} {dvs : List V} {ds : List Value} {E : L2.St → XK} {m : Str} {ta : TE} {t : TA}
theorem pe_methS {pl : Sem Bool} (he : PE X o ta) (c : Cls X.K C) (hm : Meth X.K C m f) (F : FnOk X.prog X.w X.K X.mg X.base CX k f fd ps sp) (hr : Room k X.A) (hb : Binds X.K fd ps ds) (hd : Vals dvs ds) (hx : ∀ σ, PassesAt CX X σ (E σ)) (ha : PA X (e :: es) t)
    (hst : starEach (e :: es) X.env = (false, eval e X.env) :: starEach es X.env := by rfl) (hpl : (backTo pos (starEach es X.env)).any (·.1) = false := by rfl)
    (ht : eval (.Call (.Attribute o m apos) (e :: es) [] pos) X.env = (do
      let ov ← eval o X.env
      standAt apos.atName
      let (f, first) ← holding [ov] (getMethod ov m pl)
      callWith pos f first (backTo pos (starEach (e :: es) X.env)) (backToKw pos (keywordEach [] X.env))) := by rfl) :
    PE X (.Call (.Attribute o m apos) (e :: es) [] pos) (tMethS C m sp dvs E ta t) := by
  refine ⟨fun pins s σ H Q I h => ?_⟩
  refine PySem.W.methodCall_KW (pl := pl) (thn (he.run pins s σ H _ I h) fun u s1 ⟨x, H1, I1, rx, a, dx, fs, ex, ea, l, q⟩ => ?_) ht
  subst ex
  obtain rfl : u = Value.ref a := rx
  refine getmeth_ok I1 ea c hm l ?_
  refine PySem.W.callWith_K (first := [.ref a]) (h₀ := X.base) I.ok.mod.kin hm.kp (thn (ha.run pos pins s1 σ H1 _ I1 q) fun us s2 ⟨vs, H2, I2, r, q2⟩ => ⟨I2.kIn, ?_⟩) hst hpl
  exact run_fnSD (us := .ref a :: us) (vs := .ref a :: vs) F hr hb hd (hx σ) I2 (.cons rfl r) q2
theorem pe_methS0 {pl : Sem Bool} (he : PE X o ta) (c : Cls X.K C) (hm : Meth X.K C m f) (F : FnOk X.prog X.w X.K X.mg X.base CX k f fd ps sp) (hr : Room k X.A) (hb : Binds X.K fd ps ds) (hd : Vals dvs ds) (hx : ∀ σ, PassesAt CX X σ (E σ))
    (ht : eval (.Call (.Attribute o m apos) [] [] pos) X.env = (do
      let ov ← eval o X.env
      standAt apos.atName
      let (f, first) ← holding [ov] (getMethod ov m pl)
      callWith pos f first (backTo pos (starEach [] X.env)) (backToKw pos (keywordEach [] X.env))) := by rfl) :
    PE X (.Call (.Attribute o m apos) [] [] pos) (tMethS C m sp dvs E ta tNil) := by
  refine ⟨fun pins s σ H Q I h => ?_⟩
  refine PySem.W.methodCall_KW (pl := pl) (thn (he.run pins s σ H _ I h) fun u s1 ⟨x, H1, I1, rx, a, dx, fs, ex, ea, l, q⟩ => ?_) ht
  subst ex
  obtain rfl : u = Value.ref a := rx
  refine getmeth_ok I1 ea c hm l ?_
  exact PySem.W.callWith_K0 (first := [.ref a]) I1.kIn hm.kp (run_fnSD (us := [.ref a]) (vs := [.ref a]) F hr hb hd (hx σ) I1 (.cons rfl .nil) q)
end
theorem t_meth {c : Nat} {dvs : List V} (hdr : ∀ w, RepL F.b w dts dvs) {σ : L2.St} {H : Hp} {Q : VK} (q : tE F (methM c x n dts cv mo am) σ H Q) : tMethS (F.b.C c) x (spV F.b n cv) dvs (WE F.W) (tE F mo) (tA F am) σ H Q := by
  refine tG.mono (tG.bind (R := Rep F.b) (k := fun o e h1 => match insOf h1 o with
    | some (c', ks, _) => if c' = c ∧ ks.contains x = false then (am e h1).bind fun ts h2 => if (o :: (ts ++ dts)).length = n then cv (o :: (ts ++ dts)) h2 else .bad else .bad
    | none => .bad) q) ?_
  rintro v H1 ⟨w1, e, h1, o, rfl, sr1, hr1, r1, p1⟩
  split at p1
  · rename_i c' ks ts0 qi
    split at p1
    · rename_i hcc
      obtain ⟨rfl, hno⟩ := hcc
      obtain ⟨a0, dx, fs, rfl, h2, h3, h4⟩ := insOf_rep hr1 qi (r1.b hr1)
      refine ⟨a0, dx, fs, rfl, h2, no_field (by rw [h3]; exact hno), w1, e, h1, rfl, sr1, hr1, Po.mono (Po.bind (R := RepL F.b) (f := fun ts h2 => if (o :: (ts ++ dts)).length = n then cv (o :: (ts ++ dts)) h2 else .bad) p1) ?_⟩
      rintro vs H2 ⟨w2, h2', ts, rfl, es2, hr2, r2, p2⟩
      split at p2
      · rename_i hl
        exact ⟨w2, h2', o :: (ts ++ dts), rfl, hr2, RepL.cons (r1.kp (hr1.kp es2)) (r2.app (hdr w2)), hl, p2⟩
      · exact (show False from p2).elim
    · exact (show False from p1).elim
  · exact (show False from p1).elim
theorem s_meth {c : Nat} {pl : Sem Bool} (D : Mn X.prog X.w X.K X.mg X.base F.b c x n dts k cv) (hr : Room k X.A) (tk : Takes X F.W) (ho : PE X o (tE F mo)) (ha : PA X (e :: es) (tA F am))
    (hst : starEach (e :: es) X.env = (false, eval e X.env) :: starEach es X.env := by rfl) (hpl : (backTo pos (starEach es X.env)).any (·.1) = false := by rfl)
    (ht : eval (.Call (.Attribute o x apos) (e :: es) [] pos) X.env = (do
      let ov ← eval o X.env
      standAt apos.atName
      let (f, first) ← holding [ov] (getMethod ov x pl)
      callWith pos f first (backTo pos (starEach (e :: es) X.env)) (backToKw pos (keywordEach [] X.env))) := by rfl) : PE X (.Call (.Attribute o x apos) (e :: es) [] pos) (tE F (methM c x n dts cv mo am)) := by
  obtain ⟨f, fd, ps, ds, dvs, Fn, hc, hm, hb, hd, hdr⟩ := D.ex
  exact wkE (pe_methS ho hc hm Fn hr hb hd (fun σ => passAt tk σ) ha hst hpl ht) fun σ H Q q => t_meth hdr q
theorem s_meth0 {c : Nat} {pl : Sem Bool} (D : Mn X.prog X.w X.K X.mg X.base F.b c x n dts k cv) (hr : Room k X.A) (tk : Takes X F.W) (ho : PE X o (tE F mo))
    (ht : eval (.Call (.Attribute o x apos) [] [] pos) X.env = (do
      let ov ← eval o X.env
      standAt apos.atName
      let (f, first) ← holding [ov] (getMethod ov x pl)
      callWith pos f first (backTo pos (starEach [] X.env)) (backToKw pos (keywordEach [] X.env))) := by rfl) : PE X (.Call (.Attribute o x apos) [] [] pos) (tE F (methM c x n dts cv mo anil)) := by
  obtain ⟨f, fd, ps, ds, dvs, Fn, hc, hm, hb, hd, hdr⟩ := D.ex
  refine wkE (pe_methS0 ho hc hm Fn hr hb hd (fun σ => passAt tk σ) ht) fun σ H Q q => ?_
  have z := t_meth hdr q
  refine tG.mono z ?_
  rintro v H1 ⟨a, dx, fs, e1, e2, e3, w, e, h, rfl, sr, hr, p⟩
  exact ⟨a, dx, fs, e1, e2, e3, p [] w Ev.refl hr RepL.nil⟩
end
end Y
/-! Y11: objects of the heap, own objects that become values, instances. -/
namespace Y
open PySem L2

section
variable {X : Cx} {F : Fr} {pos p q : PySem.Pos} {a c e tg iter o i0 : Expr} {st : Stmt} {sts : List Stmt} {ma mb mo mi : EM} {m m' : SM} {am : AM}

/-! ### a new object of the heap -/
def allocM (m : EM) : EM := fun e h => (m e h).bind fun t h1 => .ok (.ref h1.length) (h1 ++ [t])
theorem HR.app {b : Tb} {w : Wd} {h : Hs} {t : T} {p : Addr} {o : HO} (r : HR b w h) (ho : w.H p = some o) (rc : RepC b w t o) (m : w.M p) (n : p ∉ w.ρ) : HR b { w with ρ := w.ρ ++ [p] } (h ++ [t]) ∧ Kp w { w with ρ := w.ρ ++ [p] } := by
  have kp : Kp w { w with ρ := w.ρ ++ [p] } := ⟨fun _ _ e _ => e, fun _ m _ => m, ⟨[p], rfl⟩, fun _ _ e => e, fun _ _ _ e => e, fun _ e => e⟩
  refine ⟨⟨?_, ?_, fun i u q => ?_, fun a ha => ?_, r.mm⟩, kp⟩
  · rw [List.length_append, List.length_append, r.len]; rfl
  · refine List.nodup_append.mpr ⟨r.nd, by simp, fun a ha b hb => ?_⟩
    rw [List.mem_singleton] at hb
    subst hb
    exact fun z => n (z ▸ ha)
  · by_cases hi : i < h.length
    · rw [List.getElem?_append_left hi] at q
      obtain ⟨a, u, h1, h2, h3⟩ := r.ob i _ q
      exact ⟨a, u, pre_get ⟨[p], rfl⟩ h1, h2, h3.kp kp⟩
    · rw [List.getElem?_append_right (by omega)] at q
      have hi0 : i - h.length = 0 := by
        have := (List.getElem?_eq_some_iff.mp q).1
        simp at this
        omega
      rw [hi0] at q
      cases q
      have : i = w.ρ.length := by have := r.len; omega
      subst this
      exact ⟨p, o, by simp, ho, rc.kp kp⟩
  · rcases List.mem_append.mp ha with z | z
    · exact r.rm a z
    · rw [List.mem_singleton] at z
      rw [z]; exact m
theorem s_alloc (h : PE X a (tF F ma)) : PE X a (tE F (allocM ma)) := by
  refine wkE h fun σ H Q z => ?_
  obtain ⟨w, e, h, rfl, sr, hr, p⟩ := z
  refine ⟨w, e, h, rfl, sr, hr, ?_⟩
  unfold allocM at p
  generalize ma e h = r at p ⊢
  cases r with
  | ok t h1 =>
    intro q o w' es hr' n ho rc mq nr
    have p : Po F.b (Rep F.b) w (fun c d H => F.W c d σ H) Q (.ok (.ref h1.length) (h1 ++ [t])) := p
    obtain ⟨hr2, k2⟩ := hr'.app ho rc mq nr
    refine p (.ref q) { w' with ρ := w'.ρ ++ [q] } ⟨es.keep, es.newM, es.oldM, es.pre.trans ⟨[q], rfl⟩, fun a z => ?_, es.live⟩ hr2 ?_
    · rcases List.mem_append.mp z with z | z
      · exact es.newR a z
      · rw [List.mem_singleton] at z
        rw [z]; exact .inr n
    · unfold Rep
      refine ⟨q, rfl, ?_⟩
      show (w'.ρ ++ [q])[h1.length]? = some q
      rw [← hr'.len]
      simp
  | exc c fs h1 => exact p
  | bad => exact p

/-! ### an object of the heap is written -/
theorem HR.hput {b : Tb} {w : Wd} {h : Hs} {n : Nat} {t : T} {a : Addr} {o : HO} (r : HR b w h) (ha : w.ρ[n]? = some a) (rc : RepC b w t o) :
    HR b { w with H := upd w.H a o } (h.set n t) ∧ Es w { w with H := upd w.H a o } := by
  have am : a ∈ w.ρ := List.mem_of_getElem? ha
  have lv : w.H a ≠ none := mut_ne (r.mm a (r.rm a am))
  have es : Es w { w with H := upd w.H a o } := ⟨fun b u e n => by
      show upd w.H a o b = some u
      rw [upd_ne fun z => by subst z; exact n am]
      exact e, fun _ m _ => m, fun _ m => m, List.prefix_refl _, fun _ z => .inl z, fun b l => by
      show upd w.H a o b ≠ none
      unfold upd
      split
      · simp
      · exact l⟩
  have kp := r.kp es
  refine ⟨⟨by rw [List.length_set]; exact r.len, r.nd, fun i u q => ?_, r.rm, fun b m => ?_⟩, es⟩
  · by_cases hi : i = n
    · subst hi
      have hlt : i < h.length := by
        have := (List.getElem?_eq_some_iff.mp q).1
        rwa [List.length_set] at this
      rw [List.getElem?_set_self hlt] at q
      cases q
      exact ⟨a, o, ha, upd_same, rc.kp kp⟩
    · rw [List.getElem?_set_ne (Ne.symm hi)] at q
      obtain ⟨b, v, h1, h2, h3⟩ := r.ob i u q
      refine ⟨b, v, h1, ?_, h3.kp kp⟩
      show upd w.H a o b = some v
      rw [upd_ne fun z => by subst z; exact hi (nd_ix r.nd h1 ha)]
      exact h2
  · show Mut (upd w.H a o b)
    by_cases z : b = a
    · rw [z, upd_same]; exact rc.mut
    · rw [upd_ne z]; exact r.mm b m
/-- .. as a statement goes on -/
theorem tS.goAt {α γ : Type} {R : Wd → α → γ → Prop} {me : En → Hs → Res α} {k : α → En → Hs → SRes} {D : Ends} {σ : L2.St} {w : Wd} {e : En} {h : Hs} (s : SI F w σ e h) (p : PoS F w D ((me e h).go e fun a h1 => k a e h1)) :
    tG F R me σ w.H fun g H1 => ∃ w1 h1 a, w1.H = H1 ∧ Es w w1 ∧ SI F w1 σ e h1 ∧ R w1 a g ∧ PoS F w1 D (k a e h1) := by
  refine ⟨w, e, h, rfl, s.sr, s.hr, ?_⟩
  generalize me e h = r at p ⊢
  cases r with
  | ok a h1 => exact fun g w' es hr q => ⟨w', h1, a, rfl, es, s.es es hr, q, PoS.step (s.hr.kp es) p⟩
  | exc c fs h1 => exact fun cls d w' es hr q => p cls d σ w' (s.es es hr) (s.hr.kp es) q
  | bad => exact p
/-- o[i] = v, o a list of the heap -/
def hputF (o i v : T) (e : En) (h : Hs) : SRes := match o, i with
  | .ref n, .int k => match h[n]? with
    | some (.lst xs) => match ixN xs.length k with
      | some j => .nx e (h.set n (.lst (xs.set j v)))
      | none => .bad
    | _ => .bad
  | _, _ => .bad
def hsetS (mo mi mv : EM) : SM := fun e h => (mv e h).go e fun v h1 => (mo e h1).go e fun o h2 => (mi e h2).go e fun i h3 => hputF o i v e h3
theorem x_hset (hv : PE X a (tE F ma)) (ho : PE X o (tE F mo)) (hi : PE X i0 (tE F mi)) (hs : swapsWithSole [.Subscript o i0 q] a pos.line X.env = pure false := by rfl) (hw : swappedStores [.Subscript o i0 q] a X.env = pure none := by rfl)
    (h1 : (assignEach [.Subscript o i0 q] X.env).map (·.2) = [assign (.Subscript o i0 q) X.env] := by rfl)
    (hsub : PG X (.Subscript o i0 q) (gSub (tE F mo) (tE F mi) rSetL) := by exact pg_sub ho hi set_list) : PS X (.Assign [.Subscript o i0 q] a pos) (tS F (hsetS mo mi ma)) := by
  refine wkS (ps_asg hv hsub hs hw h1) fun D σ H z => ?_
  obtain ⟨w, e, h, rfl, s, p⟩ := z
  refine tG.mono (tS.goAt (R := Rep F.b) (k := fun v e h1 => (mo e h1).go e fun o h2 => (mi e h2).go e fun i h3 => hputF o i v e h3) s p) ?_
  rintro v H1 ⟨w1, h1, t, rfl, es1, s1, r1, p1⟩
  refine tG.mono (tS.goAt (R := Rep F.b) (k := fun o e h2 => (mi e h2).go e fun i h3 => hputF o i t e h3) s1 p1) ?_
  rintro vo H2 ⟨w2, h2, to, rfl, es2, s2, r2, p2⟩
  refine tG.mono (tS.goAt (R := Rep F.b) (k := fun i e h3 => hputF to i t e h3) s2 p2) ?_
  rintro vi H3 ⟨w3, h3, ti, rfl, es3, s3, r3, p3⟩
  unfold hputF at p3
  split at p3
  · rename_i n k
    split at p3
    · rename_i xs q
      split at p3
      · rename_i j hj
        have r2 := r2.kp (s2.hr.kp es3)
        unfold Rep at r2 r3
        obtain ⟨a0, rfl, ha⟩ := r2
        subst r3
        obtain ⟨a1, u, g1, g2, g3⟩ := s3.hr.ob n _ q
        rw [ha] at g1
        cases g1
        obtain ⟨vs, rfl, l⟩ := g3
        refine ⟨a0, vs, k, j, rfl, rfl, g2, by rw [l.len]; exact hj, ?_⟩
        have rv := (r1.kp (s1.hr.kp es2)).kp (s2.hr.kp es3)
        obtain ⟨hr4, es4⟩ := s3.hr.hput (t := .lst (xs.set j t)) (o := .lst (vs.set j v)) ha ⟨_, rfl, l.set rv j⟩
        exact p3 σ _ (s3.es es4 hr4) (s3.hr.kp es4)
      · exact p3.elim
    · exact p3.elim
  · exact p3.elim

/-! ### the list in a slot: the frame's own or one of the heap -/
def cell (e : En) (h : Hs) (i : Nat) : Option (List T) := match e[i]? with
  | some (.own (.lst xs)) => some xs
  | some (.io (.lst xs)) => some xs
  | some (.val (.ref n)) => match h[n]? with
    | some (.lst xs) => some xs
    | _ => none
  | _ => none
def putCell (e : En) (h : Hs) (i : Nat) (xs : List T) : En × Hs := match e[i]? with
  | some (.own _) => (e.set i (.own (.lst xs)), h)
  | some (.io _) => (e.set i (.io (.lst xs)), h)
  | some (.val (.ref n)) => (e, h.set n (.lst xs))
  | _ => (e, h)
theorem SI.cell {w : Wd} {σ : L2.St} {e : En} {h : Hs} (s : SI F w σ e h) {i : Nat} {xs : List T} (hc : cell e h i = some xs) :
    ∃ a vs, σ[i]? = some (some (.ref a)) ∧ w.H a = some (.lst vs) ∧ RepL F.b w xs vs ∧
      ∀ (ys : List T) (us : List V), RepL F.b w ys us → SI F { w with H := upd w.H a (.lst us) } σ (putCell e h i ys).1 (putCell e h i ys).2 ∧ Kp w { w with H := upd w.H a (.lst us) } := by
  unfold Y.cell at hc
  split at hc
  · rename_i xs' q
    cases hc
    obtain ⟨a, o, h3, h4, h5, _⟩ := s.mine q rfl
    obtain ⟨vs, rfl, r⟩ := h5
    refine ⟨a, vs, h3, h4, r, fun ys us ry => ?_⟩
    unfold putCell
    rw [q]
    exact s.put (t1 := .lst ys) q rfl h3 ⟨us, rfl, ry⟩
  · rename_i xs' q
    cases hc
    obtain ⟨a, o, h3, h4, h5, _⟩ := s.mine q rfl
    obtain ⟨vs, rfl, r⟩ := h5
    refine ⟨a, vs, h3, h4, r, fun ys us ry => ?_⟩
    unfold putCell
    rw [q]
    exact s.put (t1 := .lst ys) q rfl h3 ⟨us, rfl, ry⟩
  · rename_i n q
    split at hc
    · rename_i xs' qn
      cases hc
      obtain ⟨v, hv, x, rfl, rx⟩ := s.sr.at_ i _ q
      unfold Rep at rx
      obtain ⟨a, rfl, ha⟩ := rx
      obtain ⟨a1, u, g1, g2, g3⟩ := s.hr.ob n _ qn
      rw [ha] at g1
      cases g1
      obtain ⟨vs, rfl, l⟩ := g3
      refine ⟨a, vs, hv, g2, l, fun ys us ry => ?_⟩
      unfold putCell
      rw [q]
      obtain ⟨hr4, es4⟩ := s.hr.hput (t := .lst ys) (o := .lst us) ha ⟨us, rfl, ry⟩
      exact ⟨s.es es4 hr4, s.hr.kp es4⟩
    · cases hc
  · cases hc
/-- behind an expression the list in the slot is there anew -/
def appC (i : Nat) (m : EM) : SM := fun e h => match cell e h i with
  | some _ => (m e h).go e fun t h1 => match cell e h1 i with
    | some xs => if decide (xs.length < sizeLine) then .nx (putCell e h1 i (xs ++ [t])).1 (putCell e h1 i (xs ++ [t])).2 else .bad
    | none => .bad
  | none => .bad
theorem x_appC {i : Nat} {x : Str} {p1 : PySem.Pos} (hv : PE X (.Name x p) (tVar i)) (ha : PE X a (tE F ma)) (hs : swapsWith (.Call (.Attribute (.Name x p) "append" p1) [a] [] q) none pos.line X.env = pure false := by rfl)
    (he : starEach [a] X.env = (false, eval a X.env) :: starEach [] X.env := by rfl)
    (hpe : ∀ {r t}, MtR X "list.append" r → PA X [a] t → PE X (.Call (.Attribute (.Name x p) "append" p1) [a] [] q) (tBM X.K "list" r (tVar i) t) := by exact fun hm h => pe_bm PySem.F.plainAttrs_list PySem.F.slot_list_append PySem.F.type_list_append hm hv h) :
    PS X (.Expr (.Call (.Attribute (.Name x p) "append" p1) [a] [] q) pos) (tS F (appC i ma)) := by
  refine wkS (ps_expr (hpe mt_append (pa_cons ha pa_nil he)) hs) fun D σ H z => ?_
  obtain ⟨w, e, h, rfl, s, p⟩ := z
  unfold appC at p
  split at p
  · rename_i xs hc
    obtain ⟨a0, vs, h3, h4, r, _⟩ := s.cell hc
    refine ⟨.ref a0, h3, .inl ⟨rfl, vs, SqL.of h4⟩, ?_⟩
    refine tG.mono (tS.goAt (R := Rep F.b) (k := fun t e h1 => match cell e h1 i with
      | some xs => if decide (xs.length < sizeLine) then .nx (putCell e h1 i (xs ++ [t])).1 (putCell e h1 i (xs ++ [t])).2 else .bad
      | none => .bad) s p) ?_
    rintro v H1 ⟨w1, h1, t, rfl, es, s1, r1, p1⟩
    split at p1
    · rename_i ys hc1
      split at p1
      · rename_i hf
        obtain ⟨a1, us, g3, g4, g, k⟩ := s1.cell hc1
        rw [h3] at g3
        cases g3
        refine ⟨a0, us, v, rfl, rfl, g4, ?_, ?_⟩
        · rw [g.len]; exact of_decide_eq_true hf
        · obtain ⟨s2, k2⟩ := k (ys ++ [t]) (us ++ [v]) (g.app (RepL.one r1))
          exact p1 σ _ s2 k2
      · exact p1.elim
    · exact p1.elim
  · exact p.elim
/-- x.reverse() -/
def revC (i : Nat) : SM := fun e h => match cell e h i with
  | some xs => .nx (putCell e h i xs.reverse).1 (putCell e h i xs.reverse).2
  | none => .bad
theorem x_revC {i : Nat} {x : Str} {p1 : PySem.Pos} (hv : PE X (.Name x p) (tVar i)) (hs : swapsWith (.Call (.Attribute (.Name x p) "reverse" p1) [] [] q) none pos.line X.env = pure false := by rfl)
    (hpe : ∀ {r}, MtR X "list.reverse" r → PE X (.Call (.Attribute (.Name x p) "reverse" p1) [] [] q) (tBM0 X.K "list" r (tVar i)) := by exact fun hm => pe_bm0 PySem.F.plainAttrs_list PySem.F.slot_list_reverse PySem.F.type_list_reverse hm hv) :
    PS X (.Expr (.Call (.Attribute (.Name x p) "reverse" p1) [] [] q) pos) (tS F (revC i)) := by
  refine wkS (ps_expr (hpe mt_reverse) hs) fun D σ H z => ?_
  obtain ⟨w, e, h, rfl, s, p⟩ := z
  unfold revC at p
  split at p
  · rename_i xs hc
    obtain ⟨a0, vs, h3, h4, r, k⟩ := s.cell hc
    refine ⟨.ref a0, h3, .inl ⟨rfl, vs, SqL.of h4⟩, a0, vs, rfl, rfl, h4, ?_⟩
    obtain ⟨s2, k2⟩ := k xs.reverse vs.reverse r.rev
    exact p σ _ s2 k2
  · exact p.elim
/-- y = x.pop() -/
def popC (j i : Nat) : SM := fun e h => match cell e h i with
  | some xs => match xs[xs.length - 1]? with
    | some t => match gOne j t h (putCell e h i xs.dropLast).1 with
      | some e' => .nx e' (putCell e h i xs.dropLast).2
      | none => .bad
    | none => .bad
  | none => .bad
theorem RepL.dropLast {b : Tb} {w : Wd} {xs : List T} {vs : List V} (r : RepL b w xs vs) : RepL b w xs.dropLast vs.dropLast := by
  rw [List.dropLast_eq_take, List.dropLast_eq_take, r.len]
  exact r.take _
theorem x_popC {i j : Nat} {x y : Str} {p' p1 : PySem.Pos} (hN : X.N.Nodup) (hj : X.N[j]? = some y) (hy : Loc X.env.scope y) (hv : PE X (.Name x p) (tVar i))
    (hs : swapsWith (.Call (.Attribute (.Name x p) "pop" p1) [] [] q) (some (.Name y p')) pos.line X.env = pure false := by rfl)
    (hf : X.fn y = true ∨ X.env.scope.names.lookup y = some .local := by first | exact .inl rfl | exact .inr rfl | assumption)
    (hpe : ∀ {r}, MtR X "list.pop" r → PE X (.Call (.Attribute (.Name x p) "pop" p1) [] [] q) (tBM0 X.K "list" r (tVar i)) := by exact fun hm => pe_bm0 PySem.F.plainAttrs_list PySem.F.slot_list_pop PySem.F.type_list_pop hm hv) :
    PS X (.Assign [.Name y p'] (.Call (.Attribute (.Name x p) "pop" p1) [] [] q) pos) (tS F (popC j i)) := by
  refine wkS (ps_set hN hj hy (hpe mt_pop) hs hf) fun D σ H z => ?_
  obtain ⟨w, e, h, rfl, s, p⟩ := z
  unfold popC at p
  split at p
  · rename_i xs hc
    split at p
    · rename_i t ht
      obtain ⟨a0, vs, h3, h4, r, k⟩ := s.cell hc
      obtain ⟨v, hv', rv⟩ := r.get ht
      refine ⟨.ref a0, h3, .inl ⟨rfl, vs, SqL.of h4⟩, a0, vs, v, rfl, rfl, h4, by rw [r.len]; exact hv', ?_⟩
      obtain ⟨s2, k2⟩ := k xs.dropLast vs.dropLast r.dropLast
      have p2 := PoS.step k2 p
      split at p2
      · rename_i e' he'
        obtain ⟨n1, n2, n3, n4⟩ := (gt_one (F := F) j).en _ _ _ _ he'
        exact (gt_one (F := F) j).ok _ _ _ σ t v e' _ s2.sr s2.hr (rv.kp k2) he' fun σ' sr l out => p2 σ' _ (s2.tgt sr out n2 n3 n4) Kp.refl
      · exact p2.elim
    · exact p.elim
  · exact p.elim

/-! ### an own object becomes a value -/
theorem upd_id {H : Hp} {a : Addr} {o : HO} (h : H a = some o) : upd H a o = H := by
  funext b
  by_cases z : b = a
  · rw [z, upd_same, h]
  · rw [upd_ne z]
/-- a is no more to be written; o' stands there -/
def Wd.cool (w : Wd) (a : Addr) (o : HO) : Wd := ⟨fun x => w.M x ∧ x ≠ a, w.ρ, upd w.H a o⟩
theorem Kp.cool {b : Tb} {w : Wd} {h : Hs} (hr : HR b w h) {a : Addr} {o : HO} (m : w.M a) : Kp w (w.cool a o) := by
  have mu := hr.mm a m
  refine ⟨fun c u q n => ?_, fun c z _ => z.1, List.prefix_refl _, fun c vs q => ?_, fun c u v q => ?_, fun c l => ?_⟩
  · show upd w.H a o c = some u
    rw [upd_ne fun z => by subst z; exact n m]; exact q
  · show upd w.H a o c = some (.tup vs)
    rw [upd_ne fun z => by subst z; rw [q] at mu; exact mu]; exact q
  · show upd w.H a o c = some (.frz u v)
    rw [upd_ne fun z => by subst z; rw [q] at mu; exact mu]; exact q
  · show upd w.H a o c ≠ none
    unfold upd
    split
    · simp
    · exact l
theorem HR.cool {b : Tb} {w : Wd} {h : Hs} (hr : HR b w h) {a : Addr} {o : HO} (m : w.M a) (n : a ∉ w.ρ) : HR b (w.cool a o) h := by
  refine ⟨hr.len, hr.nd, fun i t q => ?_, fun c z => ⟨hr.rm c z, fun e => n (e ▸ z)⟩, fun c z => ?_⟩
  · obtain ⟨c, u, h1, h2, h3⟩ := hr.ob i t q
    refine ⟨c, u, h1, ?_, h3.kp (Kp.cool hr m)⟩
    show upd w.H a o c = some u
    rw [upd_ne fun z => by subst z; exact n (List.mem_of_getElem? h1)]
    exact h2
  · show Mut (upd w.H a o c)
    rw [upd_ne z.2]
    exact hr.mm c z.1
theorem SI.cool {w : Wd} {σ : L2.St} {e : En} {h : Hs} (s : SI F w σ e h) {i : Nat} {t : T} (hi : e[i]? = some (.own t)) {a : Addr} {o : HO} (ha : σ[i]? = some (some (.ref a))) (rv : Rep F.b (w.cool a o) t (.ref a)) :
    SI F (w.cool a o) σ (e.set i (.val t)) h ∧ Kp w (w.cool a o) := by
  obtain ⟨a', o0, ha', h1, h2, h3, h4, h5⟩ := s.mine hi rfl
  rw [ha] at ha'
  cases ha'
  have kp := Kp.cool s.hr (o := o) h3
  have hil : i < e.length := (List.getElem?_eq_some_iff.mp hi).1
  have n0 : F.w0.H a = none := s.nw i t a hi ha
  refine ⟨⟨⟨by rw [List.length_set]; exact s.sr.len, fun j s' q => ?_, fun j k s1 s2 b q1 q2 m1 m2 e1 e2 => ?_⟩, s.hr.cool h3 h4, ⟨fun b u q n => ?_, fun b z l => s.sn.newM b z.1 l, fun b m => ⟨s.sn.oldM b m, fun z => ?_⟩, s.sn.pre, s.sn.newR, fun b l => kp.live b (s.sn.live b l)⟩, fun j t' b q1 q2 => ?_, fun j t' q => ?_, s.m0, fun j t' q => ?_⟩, kp⟩
  · by_cases ji : j = i
    · subst ji
      rw [List.getElem?_set_self hil] at q
      cases q
      exact ⟨_, ha, _, rfl, rv⟩
    · rw [List.getElem?_set_ne (Ne.symm ji)] at q
      obtain ⟨v, hv, r⟩ := s.sr.at_ j s' q
      refine ⟨v, hv, ?_⟩
      have other : ∀ b, s'.mine = true → v = some (.ref b) → b ≠ a := fun b ms ev z => by
        subst z
        subst ev
        exact ji (s.sr.apart j i s' _ b q hi ms rfl hv ha)
      cases s' with
      | no => trivial
      | val u => obtain ⟨x, q, r⟩ := r; exact ⟨x, q, r.kp kp⟩
      | own u =>
        obtain ⟨b, ob, ev, g1, g2, g3, g4⟩ := r
        exact ⟨b, ob, ev, by show upd w.H a o b = some ob; rw [upd_ne (other b rfl ev)]; exact g1, g2.kp kp, ⟨g3, other b rfl ev⟩, g4⟩
      | io u =>
        obtain ⟨b, ob, ev, g1, g2, g3, g4, g5⟩ := r
        exact ⟨b, ob, ev, by show upd w.H a o b = some ob; rw [upd_ne (other b rfl ev)]; exact g1, g2.kp kp, ⟨g3, other b rfl ev⟩, g4, g5⟩
  · have red : ∀ (j : Nat) (s' : Sl), (e.set i (.val t))[j]? = some s' → s'.mine = true → e[j]? = some s' := fun j s' q ms => by
      by_cases ji : j = i
      · subst ji
        rw [List.getElem?_set_self hil] at q
        cases q
        cases ms
      · rw [List.getElem?_set_ne (Ne.symm ji)] at q
        exact q
    exact s.sr.apart j k _ _ b (red j s1 q1 m1) (red k s2 q2 m2) m1 m2 e1 e2
  · show upd w.H a o b = some u
    rw [upd_ne fun z => by subst z; rw [n0] at q; cases q]
    exact s.sn.keep b u q n
  · subst z
    exact s.m0 b m n0
  · by_cases ji : j = i
    · subst ji
      rw [List.getElem?_set_self hil] at q1
      cases q1
    · rw [List.getElem?_set_ne (Ne.symm ji)] at q1
      exact s.nw j t' b q1 q2
  · obtain ⟨u, q'⟩ := s.lk j t' q
    by_cases ji : j = i
    · subst ji
      rw [q'] at hi
      cases hi
    · exact ⟨u, by rw [List.getElem?_set_ne (Ne.symm ji)]; exact q'⟩
  · by_cases ji : j = i
    · subst ji
      rw [List.getElem?_set_self hil] at q
      cases q
    · rw [List.getElem?_set_ne (Ne.symm ji)] at q
      exact s.li j t' q
/-- ahead of a statement: the slot's own object is a value from here on -/
def frzS (i : Nat) (m : SM) : SM := fun e h => match e[i]? with
  | some (.own t) => m (e.set i (.val t)) h
  | _ => .bad
theorem frz_core {m : SM} {D : Ends} {σ : L2.St} {H : Hp} {pins : List (Addr × Obj)} {s0 : Shared} {i : Nat} (I : Inv X pins σ H s0) (z : tS F (frzS i m) D σ H) : ∃ H', Inv X pins σ H' s0 ∧ tS F m D σ H' := by
  obtain ⟨w, e, h, rfl, s, p⟩ := z
  unfold frzS at p
  split at p
  · rename_i t hi
    obtain ⟨a, o, h3, h4, h5, h6, h7, h8⟩ := s.mine hi rfl
    have mu := h5.mut
    cases t with
    | lst xs =>
      obtain ⟨vs, rfl, r⟩ := h5
      have kp := Kp.cool s.hr (o := .lst vs) h6
      obtain ⟨s2, k2⟩ := s.cool (o := .lst vs) hi h3 (by
        unfold Rep
        exact ⟨a, vs, rfl, upd_same, fun z => z.2 rfl, r.kp kp⟩)
      refine ⟨w.H, I, w.cool a (.lst vs), _, h, upd_id h4, s2, PoS.step k2 p⟩
    | ins c ks ts =>
      obtain ⟨dx, fs, rfl, e1, r⟩ := h5
      have kp := Kp.cool s.hr (o := .ins (F.b.C c) dx fs) h6
      obtain ⟨s2, k2⟩ := s.cool (o := .ins (F.b.C c) dx fs) hi h3 (by
        unfold Rep
        exact ⟨a, dx, fs, rfl, upd_same, fun z => z.2 rfl, e1, r.kp kp⟩)
      refine ⟨w.H, I, w.cool a (.ins (F.b.C c) dx fs), _, h, upd_id h4, s2, PoS.step k2 p⟩
    | dk ks ts =>
      obtain ⟨kvs, rfl, e1, r⟩ := h5
      obtain ⟨od, I2⟩ := I.lock h4 mu
      have kp := Kp.cool s.hr (o := .frz od (.dK kvs)) h6
      obtain ⟨s2, k2⟩ := s.cool (o := .frz od (.dK kvs)) hi h3 (by
        unfold Rep
        exact ⟨a, od, kvs, rfl, upd_same, e1, r.kp kp⟩)
      exact ⟨_, I2, w.cool a (.frz od (.dK kvs)), _, h, rfl, s2, PoS.step k2 p⟩
    | dt ks ts =>
      obtain ⟨kvs, rfl, e1, r⟩ := h5
      obtain ⟨od, I2⟩ := I.lock h4 mu
      have kp := Kp.cool s.hr (o := .frz od (.dT kvs)) h6
      obtain ⟨s2, k2⟩ := s.cool (o := .frz od (.dT kvs)) hi h3 (by
        unfold Rep
        exact ⟨a, od, kvs, rfl, upd_same, e1, r.kp kp⟩)
      exact ⟨_, I2, w.cool a (.frz od (.dT kvs)), _, h, rfl, s2, PoS.step k2 p⟩
    | non => exact h5.elim
    | bl k => exact h5.elim
    | int k => exact h5.elim
    | str k => exact h5.elim
    | tup k => exact h5.elim
    | ref k => exact h5.elim
    | scr k => exact h5.elim
  · exact p.elim
theorem x_frz (i : Nat) (hs : PS X st (tS F m)) : PS X st (tS F (frzS i m)) := ⟨fun pins s σ H D I z => by
  obtain ⟨H', I', z'⟩ := frz_core I z
  exact hs.run pins s σ H' D I' z'⟩
theorem b_frz (i : Nat) (hs : PSs X sts (tS F m)) : PSs X sts (tS F (frzS i m)) := ⟨fun pins s σ H D I z => by
  obtain ⟨H', I', z'⟩ := frz_core I z
  exact hs.run pins s σ H' D I' z'⟩
end
end Y
/-! Y12: instances. -/
namespace Y
open PySem L2

section
variable {X : Cx} {F : Fr} {pos p q : PySem.Pos} {a c e tg iter o i0 : Expr} {es : List Expr} {st : Stmt} {sts : List Stmt} {ma mb mo mi : EM} {m m' : SM} {am kam : AM} {k n : Nat} {x : Str}

/-! ### self.f = v -/
def putFT (f : Str) (t : T) : List Str → List T → List Str × List T
  | k :: ks, u :: us => if k = f then (k :: ks, t :: us) else (k :: (putFT f t ks us).1, u :: (putFT f t ks us).2)
  | _, _ => ([f], [t])
theorem putFT_rep {b : Tb} {w : Wd} {f : Str} {t : T} {v : V} (rv : Rep b w t v) : ∀ {fs : List (Str × V)} {ks : List Str} {ts : List T}, fs.map (·.1) = ks → RepL b w ts (fs.map (·.2)) →
    (putF f v fs).map (·.1) = (putFT f t ks ts).1 ∧ RepL b w (putFT f t ks ts).2 ((putF f v fs).map (·.2))
  | [], ks, ts, e, r => by
    subst e
    unfold putFT
    exact ⟨rfl, RepL.one rv⟩
  | (g, u) :: fs, ks, ts, e, r => by
    subst e
    cases ts with
    | nil =>
      unfold RepL at r
      cases r
    | cons t' ts =>
      obtain ⟨v', vs, e, r1, r2⟩ := r.uncons
      cases e
      show ((if g = f then (g, v) :: fs else (g, u) :: putF f v fs).map (·.1)) = (if g = f then (g :: fs.map (·.1), t :: ts) else (g :: (putFT f t (fs.map (·.1)) ts).1, t' :: (putFT f t (fs.map (·.1)) ts).2)).1 ∧
        RepL b w (if g = f then (g :: fs.map (·.1), t :: ts) else (g :: (putFT f t (fs.map (·.1)) ts).1, t' :: (putFT f t (fs.map (·.1)) ts).2)).2 ((if g = f then (g, v) :: fs else (g, u) :: putF f v fs).map (·.2))
      split
      · exact ⟨rfl, RepL.cons rv r2⟩
      · obtain ⟨h1, h2⟩ := putFT_rep (f := f) rv (fs := fs) rfl r2
        refine ⟨?_, ?_⟩
        · rw [List.map_cons, h1]
        · rw [List.map_cons]
          exact RepL.cons r1 h2
def fldS (c : Nat) (i : Nat) (f : Str) (m : EM) : SM := fun e h => (m e h).go e fun t h1 => match mineAt e i with
  | some (.ins c' ks ts) => if c' = c ∧ ks.length < 1000 then .nx (putE e i (.ins c (putFT f t ks ts).1 (putFT f t ks ts).2)) h1 else .bad
  | _ => .bad
theorem x_fld {c i : Nat} {f : Str} (hc : Cls X.K (F.b.C c)) (hn : NoAttr X.K (F.b.C c) f) (ho : PE X (.Name x p) (tVar i)) (hv : PE X a (tE F ma)) (hs : swapsWith a (some (.Attribute (.Name x p) f q)) pos.line X.env = pure false := by rfl) :
    PS X (.Assign [.Attribute (.Name x p) f q] a pos) (tS F (fldS c i f ma)) := by
  refine wkS (ps_fld ho hv hs) fun D σ H z => ?_
  refine tG.mono (tS.goE (R := Rep F.b) (k := fun t e h1 => match mineAt e i with
  | some (.ins c' ks ts) => if c' = c ∧ ks.length < 1000 then .nx (putE e i (.ins c (putFT f t ks ts).1 (putFT f t ks ts).2)) h1 else .bad
  | _ => .bad) z) ?_
  rintro v H1 ⟨w1, e, h1, t, rfl, s1, r1, p1⟩
  split at p1
  · rename_i c' ks ts hm
    split at p1
    · rename_i hcc
      obtain ⟨rfl, hlt⟩ := hcc
      obtain ⟨sl, h2, h3⟩ := mineAt_some hm
      obtain ⟨a0, u, h4, h5, h6, _⟩ := s1.mine h2 h3
      obtain ⟨dx, fs, rfl, e1, r⟩ := h6
      refine ⟨.ref a0, h4, a0, F.b.C c', dx, fs, rfl, h5, hc, hn, ?_, ?_⟩
      · rw [← e1, List.length_map] at hlt; exact hlt
      · obtain ⟨g1, g2⟩ := putFT_rep (f := f) r1 e1 r
        obtain ⟨s2, k2⟩ := s1.put' (t1 := .ins c' (putFT f t ks ts).1 (putFT f t ks ts).2) (o1 := .ins (F.b.C c') dx (putF f v fs)) hm h4 ⟨dx, _, rfl, g1, g2⟩
        exact p1 σ _ s2 k2
    · exact p1.elim
  · exact p1.elim

/-! ### C(..) -/
def mkFin (c : Nat) (e : En) (h : Hs) : Res T := match e[(0 : Nat)]? with
  | some (.io (.ins c' ks us)) => if c' = c then .ok (.ins c ks us) h else .bad
  | _ => .bad
def mkR (c : Nat) : SRes → Res T
  | .nx e h => mkFin c e h
  | .rt .non e h => mkFin c e h
  | .exc c' fs _ h => .exc c' fs h
  | _ => .bad
def mkF (c n : Nat) (cf : List Sl → Hs → SRes) (ts : List T) (h : Hs) : Res T := if ts.length + 1 = n then mkR c (cf (.own (.ins c [] []) :: ts.map Sl.val) h) else .bad
theorem made {b : Tb} {w1 : Wd} {h1 : Hs} {c n : Nat} {cf : List Sl → Hs → SRes} {ts : List T} {vs : List V} {W : XK} {Q : VK} (hr1 : HR b w1 h1) (r : RepL b w1 ts vs) (po : Po b (Rep b) w1 W Q (mkF c n cf ts h1)) (y dx : Addr) (hy : w1.H y = none) (hdx : w1.H dx = none) (ne : dx ≠ y) :
    spG b n cf (.ref y :: vs) (upd (upd w1.H dx (.own y)) y (.ins (b.C c) dx [])) (fun v H2 => v = .non ∧ Q (.ref y) H2) W := by
  unfold mkF at po
  split at po
  · rename_i hl
    have nr : y ∉ w1.ρ := fun z => mut_ne (hr1.mm y (hr1.rm y z)) hy
    have keep : ∀ b' o, w1.H b' = some o → upd (upd w1.H dx (.own y)) y (.ins (b.C c) dx []) b' = some o := fun b' o e => by
      rw [upd_ne (ne_of_none e hy), upd_ne (ne_of_none e hdx)]; exact e
    have es : Es w1 ⟨fun a => w1.M a ∨ a = y, w1.ρ, upd (upd w1.H dx (.own y)) y (.ins (b.C c) dx [])⟩ := ⟨fun a o e _ => keep a o e, fun a m l => by
        rcases m with m | rfl
        · exact m
        · exact absurd hy l, fun a m => .inl m, List.prefix_refl _, fun a z => .inl z, fun a l => by
        cases q : w1.H a with
        | none => exact absurd q l
        | some o => show upd (upd w1.H dx (.own y)) y (.ins (b.C c) dx []) a ≠ none
                    rw [keep a o q]; simp⟩
    have kp := hr1.kp es
    have hr2 : HR b ⟨fun a => w1.M a ∨ a = y, w1.ρ, upd (upd w1.H dx (.own y)) y (.ins (b.C c) dx [])⟩ h1 := by
      refine ⟨hr1.len, hr1.nd, fun i t q => ?_, fun a z => .inl (hr1.rm a z), fun a m => ?_⟩
      · obtain ⟨a, u, g1, g2, g3⟩ := hr1.ob i t q
        exact ⟨a, u, g1, keep _ _ g2, g3.kp kp⟩
      · show Mut (upd (upd w1.H dx (.own y)) y (.ins (b.C c) dx []) a)
        by_cases z : a = y
        · rw [z, upd_same]; trivial
        · rcases m with m | m
          · have := hr1.mm a m
            cases q : w1.H a with
            | none => exact absurd q (mut_ne this)
            | some o => rw [keep a o q]; rw [q] at this; exact this
          · exact absurd m z
    have srv := SR.vals (r.kp kp)
    refine ⟨_, h1, .own (.ins c [] []) :: ts.map Sl.val, rfl, hr2, ⟨?_, fun i s q => ?_, fun i j s s' a q1 q2 m1 m2 e1 e2 => ?_⟩, by rw [List.length_cons, List.length_map]; exact hl, fun s hs => ?_, ?_⟩
    · rw [List.map_cons, List.length_cons, List.length_cons, srv.len]
    · cases i with
      | zero =>
        cases q
        exact ⟨some (.ref y), rfl, y, .ins (b.C c) dx [], rfl, upd_same, ⟨dx, [], rfl, rfl, RepL.nil⟩, .inr rfl, nr⟩
      | succ i =>
        obtain ⟨v, hv, rv⟩ := srv.at_ i s (by simpa using q)
        refine ⟨v, by simpa using hv, ?_⟩
        have : ∃ t, s = .val t := by
          have q' : (ts.map Sl.val)[i]? = some s := by simpa using q
          rw [List.getElem?_map] at q'
          obtain ⟨t, _, rfl⟩ := Option.map_eq_some_iff.mp q'
          exact ⟨t, rfl⟩
        obtain ⟨t, rfl⟩ := this
        exact rv
    · have z : ∀ (i : Nat) s, (Sl.own (.ins c [] []) :: ts.map Sl.val)[i]? = some s → s.mine = true → i = 0 := fun i s q m => by
        cases i with
        | zero => rfl
        | succ i =>
          have q' : (ts.map Sl.val)[i]? = some s := by simpa using q
          rw [List.getElem?_map] at q'
          obtain ⟨t, _, rfl⟩ := Option.map_eq_some_iff.mp q'
          cases m
      rw [z i s q1 m1, z j s' q2 m2]
    · rcases List.mem_cons.mp hs with z | z
      · rw [z]; rfl
      · obtain ⟨t, _, rfl⟩ := List.mem_map.mp z
        rfl
    · have tr : ∀ {w'}, Ev (ltc ⟨fun a => w1.M a ∨ a = y, w1.ρ, upd (upd w1.H dx (.own y)) y (.ins (b.C c) dx [])⟩ (.own (.ins c [] []) :: ts.map Sl.val) (.ref y :: vs)) ⟨fun a => w1.M a ∨ a = y, w1.ρ, upd (upd w1.H dx (.own y)) y (.ins (b.C c) dx [])⟩ w' → Es w1 w' := fun ev =>
        Ev.trans es ev fun a z l => by
          rcases z with z | ⟨i, t, q1, q2⟩
          · exact z
          · cases i with
            | zero => cases q2; exact absurd hy l
            | succ i => exact absurd (show (ts.map Sl.val)[i]? = some (.own t) by simpa using q1) no_own
      have fin : ∀ {e : En} {h' : Hs} {w' : Wd}, Po b (Rep b) w1 W Q (mkFin c e h') → Es w1 w' → HR b w' h' → Lent b w' (.own (.ins c [] []) :: ts.map Sl.val) (.ref y :: vs) e → Q (.ref y) w'.H := fun {e h' w'} po ew hr' le => by
        obtain ⟨t', a, u, h0, ea, g1, g2, g3, g4⟩ := le 0 _ rfl
        cases ea
        unfold mkFin at po
        rw [h0] at po
        cases t' with
        | ins c' ks us =>
          have po : Po b (Rep b) w1 W Q (if c' = c then .ok (.ins c ks us) h' else .bad) := po
          split at po
          · rename_i hcc
            subst hcc
            obtain ⟨dx', fs, rfl, e1, r'⟩ := g2
            have kc := Kp.cool hr' (o := .ins (b.C c') dx' fs) g3
            have idh : upd w'.H y (.ins (b.C c') dx' fs) = w'.H := upd_id g1
            have ec : Es w1 (w'.cool y (.ins (b.C c') dx' fs)) := ⟨fun a o q n => by
                show upd w'.H y _ a = some o
                rw [idh]; exact ew.keep a o q n, fun a m l => ew.newM a m.1 l, fun a m => ⟨ew.oldM a m, fun z => by subst z; exact mut_ne (hr1.mm a m) hy⟩, ew.pre, ew.newR, fun a l => by
                show upd w'.H y _ a ≠ none
                rw [idh]; exact ew.live a l⟩
            have z := po (.ref y) (w'.cool y (.ins (b.C c') dx' fs)) ec (hr'.cool g3 g4) (by
              unfold Rep
              exact ⟨y, dx', fs, rfl, upd_same, fun z => z.2 rfl, e1, r'.kp kc⟩)
            have z' : Q (.ref y) (upd w'.H y (.ins (b.C c') dx' fs)) := z
            rw [idh] at z'
            exact z'
          · exact (show False from po).elim
        | _ => exact (show False from po).elim
      generalize cf (.own (.ins c [] []) :: ts.map Sl.val) h1 = rr at po ⊢
      cases rr with
      | nx e h' => exact fun w' ev hr' le => ⟨rfl, fin po (tr ev) hr' le⟩
      | rt t e h' =>
        intro v w' ev hr' le rv
        cases t with
        | non =>
          unfold Rep at rv
          exact ⟨rv, fin po (tr ev) hr' le⟩
        | _ => exact (show False from po).elim
      | exc c' fs e h' => exact fun cls d w' ev hr' le rx => po cls d w' (tr ev) hr' rx
      | brk e h' => exact (show False from po).elim
      | cnt e h' => exact (show False from po).elim
      | bad => exact (show False from po).elim
  · exact (show False from po).elim

/-- C(..), what is raised wished for at the slots -/
def tMakeS (C : Addr) (sp : Sp) (dvs : List V) (E : L2.St → XK) (t : TA) : TE := fun σ H Q => t σ H fun vs H1 => ∀ x dx, H1 x = none → H1 dx = none → dx ≠ x →
  sp (.ref x :: (vs ++ dvs)) (upd (upd H1 dx (.own x)) x (.ins C dx [])) (fun v H2 => v = .non ∧ Q (.ref x) H2) (E σ)
def tMakeKS (C : Addr) (n m : Nat) (sp : Sp) (gV : List V → List V → List V) (E : L2.St → XK) (t tk : TA) : TE := fun σ H Q => t σ H fun vs H1 => tk σ H1 fun zs H2 => vs.length = n ∧ zs.length = m ∧ ∀ x dx, H2 x = none → H2 dx = none → dx ≠ x →
  sp (gV (.ref x :: vs) zs) (upd (upd H2 dx (.own x)) x (.ins C dx [])) (fun v H3 => v = .non ∧ Q (.ref x) H3) (E σ)
section
variable {CX : CXT} {f C : Addr} {fd : FuncData} {ps ks : List Str} {sp : Sp} {dvs : List V} {ds : List Value} {E : L2.St → XK} {t tk : TA} {kws : List Keyword} {g : List Value → List Value → List Value} {gV : List V → List V → List V}
theorem run_makeS {pins : List (Addr × Obj)} {σ : L2.St} {H : Hp} {s : Shared} {Q : VK} {us : List Value} {as : List Value} {vs : List V} {kw : List (Str × Value)} (M : Mk X.K C f) (Fn : FnOk X.prog X.w X.K X.mg X.base CX k f fd ps sp) (hr : Room (k + 1) X.A)
    (hx : PassesAt CX X σ (E σ)) (I : Inv X pins σ H s)
    (hb : ∀ s : Shared, X.K.In s.heap → ∀ y, BindsTo s fd ⟨Value.ref y :: us, kw⟩ (ps.zip (Value.ref y :: as))) (r : Vals vs as)
    (h : ∀ x dx, H x = none → H dx = none → dx ≠ x → sp (.ref x :: vs) (upd (upd H dx (.own x)) x (.ins C dx [])) (fun v H2 => v = .non ∧ Q (.ref x) H2) (E σ)) :
    wpAny (model X.prog X.w) X.A (call (.ref C) us kw) (EP X pins σ Q) X.xe s := by
  have hq := h (s.heap.objs.size + 1) s.heap.objs.size (I.hok.fresh (Nat.le_succ _)) (I.hok.fresh (Nat.le_refl _)) (Nat.ne_of_lt (Nat.lt_succ_self _))
  have I2 := Inv.made (C := C) I
  have r2 : Vals (V.ref (s.heap.objs.size + 1) :: vs) (Value.ref (s.heap.objs.size + 1) :: as) := .cons rfl r
  refine wpAny_call (make_map (f := f) I.kIn M.makes M.init (beq_iff_eq.mp M.fn) (codeAny_mono (Fn.run _ X.stack _ _ ⟨Value.ref (s.heap.objs.size + 1) :: us, kw⟩ (Value.ref (s.heap.objs.size + 1) :: as) _ _ (E σ) (hr.make C us kw)
    (I2.env0.make C us kw) (hb _ I2.kIn _) r2 hq) fun r s' hq' => ?_))
  cases r with
  | error e => exact hx pins _ _ e s' I2 hq'
  | ok fl =>
    cases fl with
    | ret u =>
      obtain ⟨v, H', I3, rv, ev, q3⟩ := I2.after hq'
      subst ev
      exact ⟨rv, ⟨V.ref (s.heap.objs.size + 1), H', I3, rfl, q3⟩⟩
    | next => exact False.elim hq'
    | brk => exact False.elim hq'
    | cont => exact False.elim hq'
theorem pe_makeS (M : Mk X.K C f) (Fn : FnOk X.prog X.w X.K X.mg X.base CX k f fd ps sp) (hr : Room (k + 1) X.A) (hg : Gl X x) (hm : X.mg x = some (.ref C)) (hb : Binds X.K fd ps ds) (hd : Vals dvs ds) (hx : ∀ σ, PassesAt CX X σ (E σ))
    (ha : PA X (e :: es) t) (hdb : (x == ("__debug__" : Str)) = false := by decide) (he : starEach (e :: es) X.env = (false, eval e X.env) :: starEach es X.env := by rfl) (hpl : (backTo pos (starEach es X.env)).any (·.1) = false := by rfl) :
    PE X (.Call (.Name x p) (e :: es) [] pos) (tMakeS C sp dvs E t) := by
  refine ⟨fun pins s σ H Q I h => ?_⟩
  refine wpAny_Call_Name_kw (ld_glob I hg hm ?_ hdb)
  refine PySem.W.callWith_K (h₀ := X.base) I.ok.mod.kin M.kp (thn (ha.run pos pins s σ H _ I h) fun us s1 ⟨vs, H1, I1, r, q⟩ => ⟨I1.kIn, ?_⟩) he hpl
  have r2 := r.append hd
  have q0 := q (s1.heap.objs.size + 1) s1.heap.objs.size (I1.hok.fresh (Nat.le_succ _)) (I1.hok.fresh (Nat.le_refl _)) (Nat.ne_of_lt (Nat.lt_succ_self _))
  have hl := Fn.len _ _ _ _ q0
  show wpAny _ _ (call (.ref C) us) _ _ _
  refine run_makeS M Fn hr (hx σ) I1 (as := us ++ ds) (fun s' kin y => hb s' (Value.ref y :: us) kin ?_) r2 q
  rw [List.cons_append, List.length_cons, ← r2.length]
  rw [List.length_cons] at hl
  exact hl
end

/-- a class under its name, its __init__ with n parameters (self among them), the last ones' defaults dts -/
structure Kn (P : Program) (w : World) (K : PySem.W.Frag) (mg : Str → Option Value) (base : Heap) (b : Tb) (x : Str) (c n : Nat) (dts : List T) (k : Nat) (cf : List Sl → Hs → SRes) : Prop where
  ex : ∃ f fd ps ds dvs, FnOk P w K mg base (L2.CX P w) k f fd ps (spG b n cf) ∧ mg x = some (.ref (b.C c)) ∧ Mk K (b.C c) f ∧ Binds K fd ps ds ∧ Vals dvs ds ∧ ∀ w, RepL b w dts dvs
theorem Kn.mono {P : Program} {w : World} {K : PySem.W.Frag} {mg : Str → Option Value} {base : Heap} {b : Tb} {x : Str} {c n : Nat} {dts : List T} {j k : Nat} {cf : List Sl → Hs → SRes} (D : Kn P w K mg base b x c n dts j cf) (h : j ≤ k) : Kn P w K mg base b x c n dts k cf := by
  obtain ⟨f, fd, ps, ds, dvs, F, r⟩ := D.ex
  exact ⟨f, fd, ps, ds, dvs, F.mono h, r⟩
def mkM (c n : Nat) (dts : List T) (cf : List Sl → Hs → SRes) (am : AM) : EM := fun e h => (am e h).bind fun ts h1 => mkF c n cf (ts ++ dts) h1
theorem s_make {c : Nat} {dts : List T} {cf : List Sl → Hs → SRes} (D : Kn X.prog X.w X.K X.mg X.base F.b x c n dts k cf) (hr : Room (k + 1) X.A) (hg : Gl X x) (tk : Takes X F.W) (ha : PA X (e :: es) (tA F am)) (hdb : (x == ("__debug__" : Str)) = false := by decide)
    (he : starEach (e :: es) X.env = (false, eval e X.env) :: starEach es X.env := by rfl) (hpl : (backTo pos (starEach es X.env)).any (·.1) = false := by rfl) : PE X (.Call (.Name x p) (e :: es) [] pos) (tE F (mkM c n dts cf am)) := by
  obtain ⟨f, fd, ps, ds, dvs, Fn, hm, M, hb, hd, hdr⟩ := D.ex
  refine wkE (pe_makeS M Fn hr hg hm hb hd (fun σ => passAt tk σ) ha hdb he hpl) fun σ H Q q => ?_
  refine tG.mono (tG.bind (R := RepL F.b) (k := fun ts _ h1 => mkF c n cf (ts ++ dts) h1) q) ?_
  rintro vs H1 ⟨w1, e, h1, ts, rfl, sr1, hr1, r1, p1⟩
  exact fun y dx hy hdx ne => made hr1 (r1.app (hdr w1)) p1 y dx hy hdx ne

/-! ### keywords -/
structure PKc (X : Cx) (F : Fr) (kws : List Keyword) (am : AM) : Prop where
  ok : PK X kws (tA F am)
theorem k_nil : PK X [] (tA F anil) := by
  have h : PK X [] tNil := pk_nil
  refine ⟨fun pos pins s σ H Q I q => h.run pos pins s σ H Q I ?_⟩
  obtain ⟨w, en, h, rfl, sr, hr, p⟩ := q
  exact p.fin hr RepL.nil
theorem k_cons {nm : Option Str} {kpos : PySem.Pos} {kws : List Keyword} (ha : PE X a (tE F ma)) (hr : PK X kws (tA F am)) : PK X (⟨nm, a, kpos⟩ :: kws) (tA F (acons ma am)) := by
  have h := pk_cons (nm := nm) (kpos := kpos) ha hr
  refine ⟨fun pos pins s σ H Q I q => h.run pos pins s σ H Q I ?_⟩
  refine tG.mono (tG.bind (R := Rep F.b) q) ?_
  rintro x H1 ⟨w1, e, h1, tx, rfl, sr1, hr1, r1, p1⟩
  refine ⟨w1, e, h1, rfl, sr1, hr1, Po.mono (Po.bind (R := RepL F.b) p1) ?_⟩
  rintro y H2 ⟨w2, h2, ty, rfl, es, hr2, r2, p2⟩
  exact Po.fin p2 hr2 (RepL.cons (r1.kp (hr1.kp es)) r2)
/-- a class under its name, called with np values by place and the keywords ks; gT puts them in the order of the parameters behind self -/
structure KKn (P : Program) (w : World) (K : PySem.W.Frag) (mg : Str → Option Value) (base : Heap) (b : Tb) (x : Str) (c n np : Nat) (ks : List Str) (gT : List T → List T → List T) (k : Nat) (cf : List Sl → Hs → SRes) : Prop where
  ex : ∃ f fd ps, ∃ (g : List Value → List Value → List Value) (gV : List V → List V → List V), FnOk P w K mg base (L2.CX P w) k f fd ps (spG b n cf) ∧ mg x = some (.ref (b.C c)) ∧ Mk K (b.C c) f ∧ KBn K fd ps (np + 1) ks g gV ∧
    ∀ (y : V) (w : Wd) (ts us : List T) (vs zs : List V), RepL b w ts vs → RepL b w us zs → ts.length = np → us.length = ks.length → ∃ r, gV (y :: vs) zs = y :: r ∧ RepL b w (gT ts us) r
theorem KKn.mono {P : Program} {w : World} {K : PySem.W.Frag} {mg : Str → Option Value} {base : Heap} {b : Tb} {x : Str} {c n np : Nat} {ks : List Str} {gT : List T → List T → List T} {j k : Nat} {cf : List Sl → Hs → SRes} (D : KKn P w K mg base b x c n np ks gT j cf) (h : j ≤ k) : KKn P w K mg base b x c n np ks gT k cf := by
  obtain ⟨f, fd, ps, g, gV, F, r⟩ := D.ex
  exact ⟨f, fd, ps, g, gV, F.mono h, r⟩
def mkKM (c n np nk : Nat) (gT : List T → List T → List T) (cf : List Sl → Hs → SRes) (am kam : AM) : EM := fun e h => (am e h).bind fun ts h1 => (kam e h1).bind fun us h2 => if ts.length = np ∧ us.length = nk then mkF c n cf (gT ts us) h2 else .bad
theorem run_makeKS {CX : CXT} {f C : Addr} {fd : FuncData} {ps ks : List Str} {sp : Sp} {g : List Value → List Value → List Value} {gV : List V → List V → List V} {E : XK} {np : Nat} {pins : List (Addr × Obj)} {σ : L2.St} {H : Hp} {s : Shared} {Q : VK} {us ws : List Value} {vs zs : List V} (M : Mk X.K C f) (Fn : FnOk X.prog X.w X.K X.mg X.base CX k f fd ps sp) (hr : Room (k + 1) X.A) (hb : KBn X.K fd ps (np + 1) ks g gV) (hx : PassesAt CX X σ E)
    (I : Inv X pins σ H s) (r : Vals vs us) (rz : Vals zs ws) (l1 : vs.length = np) (l2 : zs.length = ks.length)
    (h : ∀ x dx, H x = none → H dx = none → dx ≠ x → sp (gV (.ref x :: vs) zs) (upd (upd H dx (.own x)) x (.ins C dx [])) (fun v H2 => v = .non ∧ Q (.ref x) H2) E) :
    wpAny (model X.prog X.w) X.A (call (.ref C) us (ks.zip ws)) (EP X pins σ Q) X.xe s := by
  have hq := h (s.heap.objs.size + 1) s.heap.objs.size (I.hok.fresh (Nat.le_succ _)) (I.hok.fresh (Nat.le_refl _)) (Nat.ne_of_lt (Nat.lt_succ_self _))
  have I2 := Inv.made (C := C) I
  have r1 : Vals (V.ref (s.heap.objs.size + 1) :: vs) (Value.ref (s.heap.objs.size + 1) :: us) := .cons rfl r
  have r2 := hb.rel r1 rz
  have n1 : (Value.ref (s.heap.objs.size + 1) :: us).length = np + 1 := by
    rw [List.length_cons, ← r.length, l1]
  refine wpAny_call (make_map (f := f) I.kIn M.makes M.init (beq_iff_eq.mp M.fn) (codeAny_mono (Fn.run _ X.stack _ _ ⟨Value.ref (s.heap.objs.size + 1) :: us, ks.zip ws⟩ (g (Value.ref (s.heap.objs.size + 1) :: us) ws) _ _ E (hr.make C us (ks.zip ws))
    (I2.env0.make C us (ks.zip ws)) (hb.to _ (Value.ref (s.heap.objs.size + 1) :: us) ws I2.kIn n1 (rz.length.symm.trans l2)) r2 hq) fun r s' hq' => ?_))
  cases r with
  | error e => exact hx pins _ _ e s' I2 hq'
  | ok fl =>
    cases fl with
    | ret u =>
      obtain ⟨v, H', I3, rv, ev, q3⟩ := I2.after hq'
      subst ev
      exact ⟨rv, ⟨V.ref (s.heap.objs.size + 1), H', I3, rfl, q3⟩⟩
    | next => exact False.elim hq'
    | brk => exact False.elim hq'
    | cont => exact False.elim hq'
theorem s_makeK {c np nk : Nat} {ks : List Str} {kws : List Keyword} {gT : List T → List T → List T} {cf : List Sl → Hs → SRes} (D : KKn X.prog X.w X.K X.mg X.base F.b x c n np ks gT k cf) (hr : Room (k + 1) X.A) (hg : Gl X x) (tk : Takes X F.W) (ha : PA X (e :: es) (tA F am)) (hkw : PK X kws (tA F kam))
    (hall : (backToKw pos (keywordEach kws X.env)).all (·.1.isSome) = true := by rfl) (hks : (backToKw pos (keywordEach kws X.env)).filterMap (·.1) = ks := by rfl) (hdb : (x == ("__debug__" : Str)) = false := by decide)
    (he : starEach (e :: es) X.env = (false, eval e X.env) :: starEach es X.env := by rfl) (hpl : ((backTo pos (starEach (e :: es) X.env)).any (·.1) || (backToKw pos (keywordEach kws X.env)).any (·.1.isNone)) = false := by rfl)
    (hnk : nk = ks.length := by rfl) : PE X (.Call (.Name x p) (e :: es) kws pos) (tE F (mkKM c n np nk gT cf am kam)) := by
  subst hnk
  obtain ⟨f, fd, ps, g, gV, Fn, hm, M, hb, hgT⟩ := D.ex
  refine ⟨fun pins s σ H Q I h => ?_⟩
  refine wpAny_Call_Name_kw (ld_glob I hg hm ?_ hdb)
  refine PySem.W.callWith_KW (h₀ := X.base) I.ok.mod.kin M.kp hall (thn (ha.run pos pins s σ H _ I (tG.bind (R := RepL F.b) (k := fun ts e h1 => (kam e h1).bind fun us h2 => if ts.length = np ∧ us.length = ks.length then mkF c n cf (gT ts us) h2 else .bad) h)) fun us s1 ⟨vs, H1, I1, r, q⟩ => ?_) hpl he
  obtain ⟨w1, e1, h1, ts, rfl, sr1, hr1, r1, p1⟩ := q
  refine thn (hkw.run pos pins s1 σ _ _ I1 ⟨w1, e1, h1, rfl, sr1, hr1, Po.bind (R := RepL F.b) (f := fun us h2 => if ts.length = np ∧ us.length = ks.length then mkF c n cf (gT ts us) h2 else .bad) p1⟩) fun ws s2 ⟨zs, H2, I2, rz, q2⟩ => ⟨I2.kIn, ?_⟩
  obtain ⟨w2, h2, us', rfl, es2, hr2, r2, p2⟩ := q2
  split at p2
  · rename_i hl
    rw [hks]
    have r1' := r1.kp (hr1.kp es2)
    show wpAny _ _ (call (.ref (F.b.C c)) us (ks.zip ws)) _ _ _
    refine run_makeKS M Fn hr hb (passAt tk σ) I2 r rz (by rw [r1.len]; exact hl.1) (by rw [r2.len]; exact hl.2) fun y dx hy hdx ne => ?_
    obtain ⟨rr, e2, r3⟩ := hgT (.ref y) w2 ts us' vs zs r1' r2 hl.1 hl.2
    rw [e2]
    exact made hr2 r3 p2 y dx hy hdx ne
  · exact (show False from p2).elim
end
end Y
/-! Y13: the starred target, sum of lists. -/
namespace Y
open PySem L2

/-! ### *a, b, .. = a tuple -/
section
variable {prog : Program} {w : World} {A : Around} {E : Value → Shared → Prop} {s : Shared}
theorem unpack_star {t : Addr} {items : List Value} {n : Nat} {Q : List Value → Shared → Prop} (hh : A.handled = none) (ht : s.heap.IsTuple t items.toArray) (hn : n - 1 ≤ items.length) (hz : items.length ≤ sizeLine)
    (hQ : ∀ (h' : Heap) (tk : Nat), (∀ b o, s.heap.get? b = some o → h'.get? b = some o) →
      Q (.ref h'.objs.size :: items.drop (items.length - (n - 1))) { s with heap := h'.push { cls := .type "list", data := .seq (items.take (items.length - (n - 1))).toArray }, toks := tk }) :
    wpAny (model prog w) A (unpackItems (.ref t) n (some 0)) Q E s := by
  have hne : t ≠ s.heap.objs.size := by obtain ⟨o, ho, _⟩ := ht; exact Nat.ne_of_lt (Heap.lt_size ho)
  have ht0 : PyProof.Rows.IsTup s.heap t items.toArray := ht
  unfold unpackItems
  refine wpAny_bind ?_
  unfold notIterableAtAll
  refine wpAny_bind (wpAny_specialOf ht0.typeIs PyProof.Rows.slot_tuple_iter.lookup ?_)
  refine wpAny_pure ?_
  simp only [Bool.false_eq_true, if_false]
  refine wpAny_bind (wpAny_holding (PyProof.Rows.iter_tuple ht0 ?_))
  refine wpAny_bind (wpAny_holding ?_)
  show wpAny _ _ (pure []) _ _ _
  refine wpAny_pure ?_
  rw [if_neg (by simp)]
  refine wpAny_bind (wpAny_holding ?_)
  have W := (Walks.tuple (prog := prog) (w := w) (A := A.in1) hh s.heap.objs.size t hne items.toArray).toS
  refine wpAny_collect_iter (T := "tuple_iterator") (.inr (.inr (.inr rfl))) W (fun i s' st => ?_) ⟨⟨_, Heap.get?_push_size _ rfl, rfl, rfl⟩, ht.at fun o e => Heap.get?_push_of_some _ e⟩ (fun b hb => ?_) (by simp) (fun s' acc hm hacc => ?_) (by simpa using hz)
  · obtain ⟨o, ho, hc, _⟩ := st.1
    exact ⟨o, ho, hc⟩
  · rcases List.mem_cons.mp hb with rfl | hb
    · exact Heap.lt_size (Heap.get?_push_size _ rfl)
    · obtain rfl := List.mem_singleton.mp hb
      obtain ⟨o, ho, _⟩ := ht
      exact Heap.lt_size (Heap.get?_push_of_some _ ho)
  · have e : acc.toList = items := by
      obtain ⟨h1, h2⟩ := hacc
      apply List.ext_getElem?
      intro i
      by_cases hi : i < acc.size
      · have q := h2 i acc[i] (by simp [hi])
        rw [Array.getElem?_toList]
        have q' : items[i]? = some acc[i] := by simpa using q
        rw [q']
        simp [hi]
      · rw [List.getElem?_eq_none (by simpa using Nat.le_of_not_lt hi), List.getElem?_eq_none (by rw [h1] at hi; simpa using Nat.le_of_not_lt hi)]
    rw [e]
    have e0 : n - 1 - 0 = n - 1 := rfl
    rw [e0, if_neg (Nat.not_lt.mpr hn)]
    refine wpAny_bind (wpAny_newObj_type ?_ (by show (items.take (items.length - (n - 1))).toArray.size ≤ sizeLine; rw [List.size_toArray, List.length_take]; omega))
    refine wpAny_pure ?_
    have z := Moved.eq_with hm
    have hk : ∀ b o, s.heap.get? b = some o → s'.heap.get? b = some o := fun b o q => by
      refine hm.heap b o (fun hb => ?_) (Heap.get?_push_of_some _ q)
      obtain rfl := List.mem_singleton.mp hb
      exact Nat.lt_irrefl _ (Heap.lt_size q)
    have q := hQ s'.heap s'.toks hk
    obtain ⟨h', g', d', tk', os'⟩ := s'
    have e1 : g' = s.gens := hm.gens
    have e2 : d' = s.drawn := hm.drawn
    have e3 : os' = s.os := hm.os
    subst e1 e2 e3
    exact q
end
def gStar (K : PySem.W.Frag) (n : Nat) (t : TGs) : TG := fun v σ H Q => ∃ a xs, v = .ref a ∧ SqT K H a xs ∧ n - 1 ≤ xs.length ∧ ∀ p, H p = none → t (.ref p :: xs.drop (xs.length - (n - 1))) σ (upd H p (.lst (xs.take (xs.length - (n - 1))))) Q
section
variable {X : Cx} {F : Fr} {pos p q p1 p2 : PySem.Pos} {a c e tg : Expr} {es : List Expr} {ma : EM}
theorem take_vals : ∀ {vs : List V} {us : List Value} (n : Nat), Vals vs us → Vals (vs.take n) (us.take n)
  | _, _, 0, _ => by simp; exact .nil
  | _, _, n + 1, .nil => .nil
  | _, _, n + 1, .cons h r => .cons h (take_vals n r)
theorem pg_star {es' : List Expr} {k : Nat} {t : TGs} {n : Nat} (hc : X.calm = true) (h : PGs X es' t) (hn : (assignEach es X.env).length = n := by rfl) (hst : (assignEach es X.env).findIdx? (·.1) = some 0 := by rfl)
    (he : (assignEach es X.env).map (·.2) = (assignEach es' X.env).map (·.2) := by rfl) : PG X (.Tuple es k pos) (gStar X.K n t) := by
  refine ⟨fun pins s σ H v u Q I r hw => ?_⟩
  obtain ⟨a, xs, e1, hq, hl, hw⟩ := hw
  subst e1
  cases r
  obtain ⟨its, rv, ht, hz⟩ := I.tuple hq
  have el := rv.length
  rw [PyProof.Rows.assign_Tuple]
  refine wpAny_bind (wpAny_standAt ?_)
  unfold unpack
  rw [hn, hst]
  refine wpAny_bind (wpAny_holding (unpack_star (I.ok.hd hc) ht (by omega) (by omega) fun h' tk hk => ?_))
  have I1 : Inv X pins σ H { s with heap := h', toks := tk } := I.kept (t' := tk) hk
  have hp : H h'.objs.size = none := I1.hok.fresh (Nat.le_refl _)
  have I2 : Inv X pins σ (upd H h'.objs.size (.lst (xs.take (xs.length - (n - 1))))) { s with heap := h'.push { cls := .type "list", data := .seq (its.take (its.length - (n - 1))).toArray }, toks := tk } := by
    refine I1.laid (t' := tk) (fun b o e => Heap.get?_push_of_some _ e) (Nat.le_refl _) ⟨by rw [List.length_take]; omega, its.take (its.length - (n - 1)), 0, ?_, Heap.get?_push_size _ rfl⟩
    rw [el]
    exact take_vals _ rv
  rw [he]
  refine h.run pins _ σ _ (.ref h'.objs.size :: xs.drop (xs.length - (n - 1))) _ Q I2 (.cons rfl ?_) (hw _ hp)
  rw [el]
  exact rv.drop _
/-- *x, y = a tuple -/
def starS (i j : Nat) (m : EM) : SM := fun e h => (m e h).go e fun t h1 => match t with
  | .tup xs => match xs[xs.length - 1]? with
    | some y => match (setV e i (.lst (xs.take (xs.length - 1)))).bind fun e' => setV e' j y with
      | some e' => .nx e' h1
      | none => .bad
    | none => .bad
  | _ => .bad
theorem x_star {i j : Nat} {x y : Str} {k : Nat} (hK : X.K = F.b.K) (hc : X.calm = true) (hN : X.N.Nodup) (hi : X.N[i]? = some x) (hx : Loc X.env.scope x) (hj : X.N[j]? = some y) (hy : Loc X.env.scope y) (ha : PE X a (tE F ma))
    (hs : swapsWithSole [.Tuple [.Starred (.Name x p1) q, .Name y p2] k p] a pos.line X.env = pure false := by rfl) (hw : swappedStores [.Tuple [.Starred (.Name x p1) q, .Name y p2] k p] a X.env = pure none := by rfl)
    (h1 : (assignEach [.Tuple [.Starred (.Name x p1) q, .Name y p2] k p] X.env).map (·.2) = [assign (.Tuple [.Starred (.Name x p1) q, .Name y p2] k p) X.env] := by rfl)
    (hf : X.fn x = true ∨ X.env.scope.names.lookup x = some .local := by first | exact .inl rfl | exact .inr rfl | assumption) (hf2 : X.fn y = true ∨ X.env.scope.names.lookup y = some .local := by first | exact .inl rfl | exact .inr rfl | assumption)
    (hg : PG X (.Tuple [.Starred (.Name x p1) q, .Name y p2] k p) (gStar X.K 2 (gCons (gName i) (gCons (gName j) gNil))) := by exact pg_star (es' := [.Name x p1, .Name y p2]) hc (pgs_cons (pg_name hN hi hx hf) (pgs_cons (pg_name hN hj hy hf2) pgs_nil))) :
    PS X (.Assign [.Tuple [.Starred (.Name x p1) q, .Name y p2] k p] a pos) (tS F (starS i j ma)) := by
  refine wkS (ps_asg ha hg hs hw h1) fun D σ H z => ?_
  obtain ⟨w, e, h, rfl, s, p⟩ := z
  refine tG.mono (tS.goAt (R := Rep F.b) (k := fun t e h1 => match t with
  | .tup xs => match xs[xs.length - 1]? with
    | some y => match (setV e i (.lst (xs.take (xs.length - 1)))).bind fun e' => setV e' j y with
      | some e' => .nx e' h1
      | none => .bad
    | none => .bad
  | _ => .bad) s p) ?_
  rintro v H1 ⟨w1, h1, t, rfl, es1, s1, r1, p1⟩
  split at p1
  · rename_i xs
    split at p1
    · rename_i y hy
      split at p1
      · rename_i e' he
        unfold Rep at r1
        obtain ⟨a0, vs, rfl, hv, _, l⟩ := r1
        have hlen : 1 ≤ xs.length := by
          have := (List.getElem?_eq_some_iff.mp hy).1
          omega
        refine ⟨a0, vs, rfl, hK ▸ hv, by rw [l.len]; exact hlen, fun q nq => ?_⟩
        have es2 := Es.new (o := .lst (vs.take (vs.length - 1))) nq
        have hr2 := s1.hr.new (o := .lst (vs.take (vs.length - 1))) nq
        have kp2 := s1.hr.kp es2
        have s2 := s1.es es2 hr2
        have rl : Rep F.b { w1 with H := upd w1.H q (.lst (vs.take (vs.length - 1))) } (.lst (xs.take (xs.length - 1))) (.ref q) := by
          unfold Rep
          refine ⟨q, _, rfl, upd_same, s1.hr.noM nq, ?_⟩
          rw [← l.len]
          exact (l.kp kp2).take _
        obtain ⟨z, hz, rz⟩ := (l.kp kp2).get hy
        have hdrop : vs.drop (vs.length - 1) = [z] := by
          rw [← l.len] at hz
          have hlt := (List.getElem?_eq_some_iff.mp hz).1
          have hz' : vs[vs.length - 1] = z := (List.getElem?_eq_some_iff.mp hz).2
          rw [List.drop_eq_getElem_cons hlt, hz']
          have : vs.length - 1 + 1 = vs.length := by omega
          rw [this, List.drop_length]
        refine ⟨.ref q, _, rfl, ?_⟩
        obtain ⟨e1, he1, he2⟩ := Option.bind_eq_some_iff.mp he
        obtain ⟨n1, n2, n3, n4⟩ := (gt_one (F := F) i).en _ h1 _ _ he1
        refine (gt_one (F := F) i).ok _ _ h1 σ _ _ e1 _ s2.sr s2.hr rl he1 fun σ' sr l' out => ?_
        have s3 := s2.tgt sr out n2 n3 n4
        rw [show (2 : Nat) - 1 = 1 from rfl, hdrop]
        refine ⟨z, [], rfl, ?_⟩
        obtain ⟨m1, m2, m3, m4⟩ := (gt_one (F := F) j).en _ h1 _ _ he2
        refine (gt_one (F := F) j).ok _ _ h1 σ' _ _ e' _ s3.sr s3.hr rz he2 fun σ'' sr' l'' out' => ?_
        exact ⟨rfl, p1 σ'' _ (s3.tgt sr' out' m2 m3 m4) kp2⟩
      · exact p1.elim
    · exact p1.elim
  · exact p1.elim
end
end Y
/-! Y14: sum of lists, the script. -/
namespace Y
open PySem L2

section
variable {prog : Program} {w : World} {A : Around} {R : Result → Shared → Prop} {I : Addr}
/-- the loop: items are lists, the total so far a list -/
theorem sum_lists_loop (hh : A.in1.handled = none) {l : Addr} (hne : l ≠ I) (rows : List (Addr × List Value)) (tot0 : List Value) (s0 : Shared) (S : Addr) (hS0 : s0.heap.objs.size ≤ S) (hI0 : s0.heap.objs.size ≤ I) (hSI : S ≠ I) (hl : s0.heap.IsList l (rows.map fun r => Value.ref r.1).toArray)
    (hrows : ∀ r ∈ rows, ∃ n, IsL s0.heap r.1 r.2.toArray n) (hz : tot0.length + (rows.flatMap (·.2)).length ≤ sizeLine)
    (hR : ∀ h' tk t, (∀ b o, s0.heap.get? b = some o → h'.get? b = some o) → s0.heap.objs.size ≤ t → (∃ n, IsL h' t (tot0 ++ rows.flatMap (·.2)).toArray n) → R (.ok (.ret (.ref t))) { s0 with heap := h', toks := tk }) :
    ∀ (k i : Nat) (h : Heap) (tk : Nat) (t : Addr) (c : Nat), rows.length - i = k → i ≤ rows.length → h.IsListIter I l i → (∀ b o, s0.heap.get? b = some o → h.get? b = some o) → h.get? S = some { cls := .type "list", dict := none, data := .seq #[.ref t] c, slots := #[] } →
      (∃ n, IsL h t (tot0 ++ (rows.take i).flatMap (·.2)).toArray n) → (t ≠ S) → (t ≠ I) → (i = rows.length → s0.heap.objs.size ≤ t) →
      codeAny (model prog w) A (.builtin "sum.loop" ⟨[.ref I, .ref S, rawInt 2, rawInt 0], []⟩) R { s0 with heap := h, toks := tk } := by
  have hl0 : l < s0.heap.objs.size := by obtain ⟨o, ho, _⟩ := hl; exact Heap.lt_size ho
  have hlS : l ≠ S := Nat.ne_of_lt (Nat.lt_of_lt_of_le hl0 hS0)
  have W := Walks.list (prog := prog) (w := w) (A := A.in1) hh I l hne (rows.map fun r => Value.ref r.1).toArray
  have hsz : (rows.map fun r => Value.ref r.1).toArray.size = rows.length := by simp
  intro k
  induction k with
  | zero =>
    intro i h tk t c hk hi hit hkeep hS ht hts htI hend
    have hin : i = rows.length := by omega
    refine codeAny_builtin F.entry_sum_loop ?_
    rw [Around.under_plainId F.plain_sum_loop _]
    show wpAny _ A.in1 (seqItems? (.ref S) >>= _) _ _ _
    refine wpAny_bind (wpAny_seqItems hS rfl ?_)
    show wpAny _ A.in1 (tryCatch (pyNext (.ref I)) _ >>= _) _ _ _
    have hl' : h.IsList l (rows.map fun r => Value.ref r.1).toArray := hl.at fun o e => hkeep _ o e
    refine wpAny_bind (wpAny_tryCatch (W.done { s0 with heap := h, toks := tk } _ _ ⟨by rw [hsz, ← hin]; exact hit, hl'⟩ fun h' tk' hk' => ?_))
    refine wpAny_pure (hR h' tk' t (fun b o e => hk' b o (fun hb => ?_) (hkeep b o e)) (hend hin) ?_)
    · obtain rfl := List.mem_singleton.mp hb
      exact absurd (Nat.lt_of_lt_of_le (Heap.lt_size e) hI0) (Nat.lt_irrefl _)
    · rw [hin, List.take_length] at ht
      obtain ⟨n, ht⟩ := ht
      exact ⟨n, hk' t _ (fun hb => htI (List.mem_singleton.mp hb)) ht⟩
  | succ k ih =>
    intro i h tk t c hk hi hit hkeep hS ht hts htI hend
    have hlt : i < rows.length := by omega
    refine codeAny_builtin F.entry_sum_loop ?_
    rw [Around.under_plainId F.plain_sum_loop _]
    show wpAny _ A.in1 (seqItems? (.ref S) >>= _) _ _ _
    refine wpAny_bind (wpAny_seqItems hS rfl ?_)
    show wpAny _ A.in1 (tryCatch (pyNext (.ref I)) _ >>= _) _ _ _
    have hl' : h.IsList l (rows.map fun r => Value.ref r.1).toArray := hl.at fun o e => hkeep _ o e
    refine wpAny_bind (wpAny_tryCatch (W.item i { s0 with heap := h, toks := tk } _ _ (by rw [hsz]; exact hlt) ⟨hit, hl'⟩ fun v h' tk' hP hst' hk' => ?_))
    have hv : v = .ref rows[i].1 := by
      have hP : (rows.map fun r => Value.ref r.1).toArray[i]? = some v := hP
      simp [hlt] at hP
      exact hP.symm
    subst hv
    obtain ⟨nr, hr⟩ := hrows rows[i] (List.getElem_mem hlt)
    have hr0 : rows[i].1 < s0.heap.objs.size := Heap.lt_size hr
    have rI : rows[i].1 ∉ [I] := fun hb => absurd (Nat.lt_of_lt_of_le hr0 hI0) (by rw [List.mem_singleton.mp hb]; exact Nat.lt_irrefl _)
    have hr' : IsL h' rows[i].1 rows[i].2.toArray nr := hk' _ _ rI (hkeep _ _ hr)
    obtain ⟨nt, ht⟩ := ht
    have ht' : IsL h' t (tot0 ++ (rows.take i).flatMap (·.2)).toArray nt := hk' _ _ (fun hb => htI (List.mem_singleton.mp hb)) ht
    have hS' := hk' S _ (fun hb => hSI (List.mem_singleton.mp hb)) hS
    have step : (tot0 ++ (rows.take i).flatMap (·.2)) ++ rows[i].2 = tot0 ++ (rows.take (i + 1)).flatMap (·.2) := by
      rw [List.take_add_one, List.flatMap_append, List.append_assoc, List.getElem?_eq_getElem hlt]
      simp
    have hfit : (tot0 ++ (rows.take (i + 1)).flatMap (·.2)).length ≤ sizeLine := by
      have e : (rows.flatMap (·.2)).length = ((rows.take (i + 1)).flatMap (·.2)).length + ((rows.drop (i + 1)).flatMap (·.2)).length := by
        rw [← List.length_append, ← List.flatMap_append, List.take_append_drop]
      rw [List.length_append]
      omega
    show wpAny _ A.in1 ((holding [Value.ref rows[i].1] (binaryOp .Add (.ref t) (.ref rows[i].1))).attempt >>= _) _ _ _
    refine wpAny_bind (wpAny_attempt (wpAny_holding (PySem.P.add_list ht' hr' ?_ ?_)))
    · have es : (tot0 ++ (rows.take i).flatMap (·.2)).toArray ++ rows[i].2.toArray = (tot0 ++ (rows.take (i + 1)).flatMap (·.2)).toArray := by
        rw [← step]; simp
      rw [es]
      have hS2 : (h'.push { cls := .type "list", data := .seq (tot0 ++ (rows.take (i + 1)).flatMap (·.2)).toArray }).get? S = some { cls := .type "list", dict := none, data := .seq #[.ref t] c, slots := #[] } := Heap.get?_push_of_some _ hS'
      have hSlt : S < h'.objs.size := Heap.lt_size hS'
      have hIlt : I < h'.objs.size := by obtain ⟨o, ho, _⟩ := hst'.1; exact Heap.lt_size ho
      show wpAny _ A.in1 (updateSeq S (fun _ => #[.ref h'.objs.size]) >>= _) _ _ _
      refine wpAny_bind ?_
      refine wpAny_updateSeq hS2 rfl ?_
      have hS3 := Heap.get?_update_self (Obj.mapSeq fun _ => #[Value.ref h'.objs.size]) hS2 rfl
      refine wpAny_bind (wpAny_letGo ?_)
      refine wpAny_bind ?_
      refine wpAny_updateSeq hS3 rfl ?_
      have hS4 := Heap.get?_update_self (Obj.mapSeq fun _ => #[Value.ref h'.objs.size]) hS3 rfl
      have oth : ∀ b o, b ≠ S → h'.get? b = some o → (((h'.push { cls := .type "list", data := .seq (tot0 ++ (rows.take (i + 1)).flatMap (·.2)).toArray }).update S (Obj.mapSeq fun _ => #[Value.ref h'.objs.size])).update S (Obj.mapSeq fun _ => #[Value.ref h'.objs.size])).get? b = some o :=
        fun b o hb e => (Heap.get?_update_other _ _ (Ne.symm hb)).trans ((Heap.get?_update_other _ _ (Ne.symm hb)).trans (Heap.get?_push_of_some _ e))
      have hnew : (((h'.push { cls := .type "list", data := .seq (tot0 ++ (rows.take (i + 1)).flatMap (·.2)).toArray }).update S (Obj.mapSeq fun _ => #[Value.ref h'.objs.size])).update S (Obj.mapSeq fun _ => #[Value.ref h'.objs.size])).get? h'.objs.size = some { cls := .type "list", data := .seq (tot0 ++ (rows.take (i + 1)).flatMap (·.2)).toArray } :=
        (Heap.get?_update_other _ _ (Nat.ne_of_lt hSlt)).trans ((Heap.get?_update_other _ _ (Nat.ne_of_lt hSlt)).trans (Heap.get?_push_size _ rfl))
      have hs0 : s0.heap.objs.size ≤ h'.objs.size := Nat.le_of_lt (Nat.lt_of_le_of_lt hS0 hSlt)
      refine wpAny_pure ⟨plainId_quiet F.plain_sum_loop _, ih (i + 1) _ _ h'.objs.size _ (by omega) hlt (hst'.1.at fun o e => oth I o (Ne.symm hSI) e) (fun b o e => ?_) hS4 ⟨_, hnew⟩ (Nat.ne_of_gt hSlt) (Nat.ne_of_gt hIlt) fun _ => hs0⟩
      have hb := Heap.lt_size e
      exact oth b o (Nat.ne_of_lt (Nat.lt_of_lt_of_le hb hS0)) (hk' b o (fun z => absurd (Nat.lt_of_lt_of_le hb hI0) (by rw [List.mem_singleton.mp z]; exact Nat.lt_irrefl _)) (hkeep b o e))
    · have := hfit
      rw [← step] at this
      rw [List.size_toArray, List.size_toArray]
      rw [List.length_append] at this
      exact this
end
namespace FY
theorem args_sum2 (a b : Value) : argsOk "sum" ⟨[a, b], []⟩ := by unfold argsOk; kernel_rfl
end FY
section
variable {prog : Program} {w : World} {A : Around} {E : Value → Shared → Prop} {s : Shared}
/-- sum(l, b), lists in a list that is not empty -/
theorem call_sum_lists (hh : A.handled = none) {l b : Addr} (rows : List (Addr × List Value)) (tot0 : List Value) {n0 : Nat} {Q : Value → Shared → Prop} (hl : s.heap.IsList l (rows.map fun r => Value.ref r.1).toArray) (hb : IsL s.heap b tot0.toArray n0)
    (hrows : ∀ r ∈ rows, ∃ n, IsL s.heap r.1 r.2.toArray n) (hne : rows ≠ []) (hz : tot0.length + (rows.flatMap (·.2)).length ≤ sizeLine)
    (hQ : ∀ h' tk t, (∀ b o, s.heap.get? b = some o → h'.get? b = some o) → s.heap.objs.size ≤ t → (∃ n, IsL h' t (tot0 ++ rows.flatMap (·.2)).toArray n) → Q (.ref t) { s with heap := h', toks := tk }) :
    wpAny (model prog w) A (call (.builtin "sum") [.ref l, .ref b]) Q E s := by
  refine call_function_tree F.kind_sum F.plain_sum F.entry_sum (FY.args_sum2 _ _) ?_
  unfold Builtin.«sum»
  simp only [List.length_cons, List.length_nil]
  rw [if_neg (by decide)]
  refine wpAny_bind (wpAny_of_eq (show Builtin.Builtins.bindParams "sum" ["start"] 0 ⟨[.ref b], []⟩ = pure [some (.ref b)] from rfl) ?_)
  refine wpAny_bind (wpAny_pyIter_list hl ?_)
  refine wpAny_bind (wpAny_pure ?_)
  have hbT : ∀ (o : Obj), ({ s with heap := s.heap.push o } : Shared).TypeIs (.ref b) "list" := fun o => ⟨_, Heap.get?_push_of_some _ hb, rfl⟩
  simp only [List.forIn_cons, List.forIn_nil]
  refine wpAny_bind (wpAny_bind (wpAny_bind (wpAny_isInstance (T := "list") (b := false) (hbT _) F.sub_list_str ?_)))
  simp only [Bool.false_eq_true, if_false]
  refine wpAny_pure (wpAny_bind (wpAny_bind (wpAny_isInstance (T := "list") (b := false) (hbT _) F.sub_list_bytes ?_)))
  simp only [Bool.false_eq_true, if_false]
  refine wpAny_pure (wpAny_bind (wpAny_bind (wpAny_isInstance (T := "list") (b := false) (hbT _) F.sub_list_bytearray ?_)))
  simp only [Bool.false_eq_true, if_false]
  refine wpAny_pure (wpAny_pure ?_)
  refine wpAny_bind (wpAny_newObj_type ?_)
  have e1 : ∀ (o : Obj), (s.heap.push o).objs.size = s.heap.objs.size + 1 := fun o => Heap.size_push _ _
  have hlt : l < s.heap.objs.size := by obtain ⟨o, ho, _⟩ := hl; exact Heap.lt_size ho
  have hbl : b < s.heap.objs.size := Heap.lt_size hb
  refine wpAny_pure ⟨plainId_quiet F.plain_sum_loop _, sum_lists_loop (A := A) (l := l) (I := s.heap.objs.size) hh (Nat.ne_of_lt hlt) rows tot0 s _ (by rw [e1]; exact Nat.le_succ _) (Nat.le_refl _) (by rw [e1]; exact Nat.succ_ne_self _) hl hrows hz hQ rows.length 0 _ s.toks b 0 (by omega) (Nat.zero_le _) ?_ (fun c o q => Heap.get?_push_of_some _ (Heap.get?_push_of_some _ q)) (Heap.get?_push_size _ rfl) ⟨n0, ?_⟩ ?_ (Nat.ne_of_lt hbl) fun z => ?_⟩
  · exact ⟨_, Heap.get?_push_of_some _ (Heap.get?_push_size _ rfl), rfl, rfl⟩
  · have := Heap.get?_push_of_some { cls := .type "list", data := .seq [Value.ref b].toArray } (Heap.get?_push_of_some { cls := .type "list_iterator", data := .fields #[.ref l, .int 0 0] } hb)
    simpa using this
  · rw [e1]; exact Nat.ne_of_lt (Nat.lt_succ_of_lt hbl)
  · exact absurd (List.eq_nil_of_length_eq_zero z.symm) hne
end
/-! ### as a rule -/
def rSumL (K : PySem.W.Frag) : List V → Hp → VK → Prop := fun xs H Q => ∃ l b zs, ∃ rows : List (Addr × List V), xs = [.ref l, .ref b] ∧ SqL K H l (rows.map fun r => V.ref r.1) ∧ H b = some (.lst zs) ∧ (∀ r ∈ rows, H r.1 = some (.lst r.2)) ∧ rows ≠ [] ∧
  zs.length + (rows.flatMap (·.2)).length ≤ sizeLine ∧ ∀ p, H p = none → Q (.ref p) (upd H p (.lst (zs ++ rows.flatMap (·.2))))
theorem rows_raw {X : Cx} {pins : List (Addr × Obj)} {σ : L2.St} {H : Hp} {s : Shared} (I : Inv X pins σ H s) : ∀ rows : List (Addr × List V), (∀ r ∈ rows, H r.1 = some (.lst r.2)) →
    ∃ raw : List (Addr × List Value), raw.map (fun r => Value.ref r.1) = rows.map (fun r => Value.ref r.1) ∧ (∀ r ∈ raw, ∃ n, IsL s.heap r.1 r.2.toArray n) ∧ Vals (rows.flatMap (·.2)) (raw.flatMap (·.2)) ∧ raw.length = rows.length
  | [], _ => ⟨[], rfl, (fun r h => (by cases h)), Paired.nil, rfl⟩
  | (a, xs) :: rows, h => by
    obtain ⟨raw, h1, h2, h3, h4⟩ := rows_raw I rows fun r hr => h r (List.mem_cons_of_mem _ hr)
    obtain ⟨_, its, n, r, _, e⟩ := I.lstM (h (a, xs) (List.mem_cons_self ..))
    refine ⟨(a, its) :: raw, by rw [List.map_cons, List.map_cons, h1], fun q hq => ?_, ?_, by rw [List.length_cons, List.length_cons, h4]⟩
    · rcases List.mem_cons.mp hq with rfl | hq
      · exact ⟨n, e⟩
      · exact h2 q hq
    · rw [List.flatMap_cons, List.flatMap_cons]
      exact r.append h3
theorem cr_sumL {X : Cx} (hc : X.calm = true) : CallR X (.builtin "sum") (rSumL X.K) := by
  intro pins s σ H xs us Q I r h
  obtain ⟨l, b, zs, rows, rfl, hl, hb, hrows, hne, hz, q⟩ := h
  obtain ⟨u1, u2, rfl, r1, r2⟩ := vals2 r
  cases r1
  cases r2
  obtain ⟨its, rv, pl, _⟩ := I.list hl
  obtain ⟨raw, h1, h2, h3, h4⟩ := rows_raw I rows hrows
  obtain ⟨_, itb, nb, rb, _, eb⟩ := I.lstM hb
  have eits : its = raw.map fun r => Value.ref r.1 := by
    rw [h1]
    have key : ∀ (rows : List (Addr × List V)) (its : List Value), Vals (rows.map fun r => V.ref r.1) its → its = rows.map fun r => Value.ref r.1 := by
      intro rows
      induction rows with
      | nil => intro its r; cases r; rfl
      | cons a rows ih =>
        intro its r
        cases r with
        | cons ra rr =>
          cases ra
          rw [ih _ rr]
          rfl
    exact key rows its rv
  have hlen := h3.length
  have hlb := rb.length
  refine call_sum_lists (I.ok.hd hc) (l := l) (b := b) raw itb (by rw [← eits]; exact pl.isList) eb h2 (fun z => hne (List.eq_nil_of_length_eq_zero (by rw [← h4, z]; rfl))) (by omega) fun h' tk t k ht hn => ?_
  obtain ⟨n, e⟩ := hn
  exact ⟨.ref t, upd H t (.lst (zs ++ rows.flatMap (·.2))), I.laid (t' := tk) k ht ⟨by rw [List.length_append]; omega, itb ++ raw.flatMap (·.2), n, rb.append h3, e⟩, rfl, q t (I.hok.fresh ht)⟩

/-- sum(xs, ys) of lists -/
def flatOf (h : Hs) : List T → Option (List T)
  | [] => some []
  | t :: ts => match lstOf h t, flatOf h ts with
    | some xs, some ys => some (xs ++ ys)
    | _, _ => none
def sumLF (ts : List T) (h : Hs) : Res T := match ts with
  | [.lst (t :: us), .lst ys] => match flatOf h (t :: us) with
    | some xs => if fits (ys ++ xs).length then .ok (.lst (ys ++ xs)) h else .bad
    | none => .bad
  | _ => .bad
theorem flat_rep {b : Tb} {w : Wd} {h : Hs} (hr : HR b w h) : ∀ {ts xs : List T} {vs : List V}, flatOf h ts = some xs → RepL b w ts vs → ∃ rows : List (Addr × List V), vs = rows.map (fun r => V.ref r.1) ∧ (∀ r ∈ rows, w.H r.1 = some (.lst r.2)) ∧ RepL b w xs (rows.flatMap (·.2))
  | [], xs, vs, e, r => by
    cases e
    unfold RepL at r
    subst r
    exact ⟨[], rfl, fun r h => (by cases h), RepL.nil⟩
  | t :: ts, xs, vs, e, r => by
    obtain ⟨v, vr, rfl, r1, r2⟩ := r.uncons
    unfold flatOf at e
    split at e
    · rename_i xs1 ys1 e1 e2
      cases e
      obtain ⟨a, us, rfl, h1, l1⟩ := lstOf_rep hr e1 (r1.b hr)
      obtain ⟨rows, rfl, h2, l2⟩ := flat_rep hr e2 r2
      refine ⟨(a, us) :: rows, rfl, fun q hq => ?_, ?_⟩
      · rcases List.mem_cons.mp hq with rfl | hq
        · exact h1
        · exact h2 q hq
      · rw [List.flatMap_cons]
        exact l1.app l2
    · cases e
theorem cs_sumL {X : Cx} {b : Tb} (hK : X.K = b.K) (hc : X.calm = true) : CallS X b (.builtin "sum") sumLF := by
  refine cs_of (cr_sumL hc) fun W Q vs w h ts hr r p => ?_
  unfold sumLF at p
  split at p
  · rename_i t us ys
    split at p
    · rename_i xs e
      split at p
      · rename_i hf
        obtain ⟨v, x, rfl, r1, r2⟩ := rbl2 r
        obtain ⟨a, us', rfl, h1, _, l1⟩ := r1
        obtain ⟨a2, us2, rfl, h2, _, l2⟩ := r2
        obtain ⟨rows, rfl, h3, l3⟩ := flat_rep hr e l1
        refine ⟨a, a2, us2, rows, rfl, SqL.of h1, h2, h3, fun z => ?_, ?_, fun p' n => ?_⟩
        · subst z
          have := l1.len
          cases this
        · have := (l2.app l3).len
          rw [List.length_append] at this
          rw [this]
          exact of_decide_eq_true hf
        · exact Po.newLst p hr (l2.app l3) n
      · exact p.elim
    · exact p.elim
  · exact p.elim
end Y
/-! Y15: defs by their data; the end. -/
namespace Y
open PySem L2

section
variable {P : Program} {w : World} {K : PySem.W.Frag} {mg : Str → Option Value} {base : Heap} {b : Tb}
/-- THE RULE for a def -/
theorem fn_okD {x qual : Str} {params : Arguments} {body : List Stmt} {scope : Scope} {dvs : List V} {kws : List (Str × V)} {f : Addr} {fd : FuncData} {N ps : List Str} {k : Nat} {m : SM} (F : FunD K x qual params body scope dvs kws f fd) (S : FnScope N ps scope)
    (hb : ∀ (cdv : Value) (A : Around) (outer : List Env) (s : Shared) (H : Hp) (E : XK) (ga : List V) (W : WX) (w0 : Wd) (as : List Sl), Room k (A.deeper (PyProof.Rows.envOfC qual scope s.heap.objs.size f cdv)) →
      Takes (cxOf (L2.CX P w) P w K mg base N qual scope f cdv A outer s H E) W → PSs (cxOf (L2.CX P w) P w K mg base N qual scope f cdv A outer s H E) body (tS ⟨b, ga, W, w0, as⟩ m)) :
    FnOk P w K mg base (L2.CX P w) (k + 1) f fd ps (spG b ps.length (fnS (N.length - ps.length) m)) := by
  refine F.ok S (fun vs H Q E q => ?_) fun cdv A outer s H vs Q E hr hsp => ?_
  · obtain ⟨w0, h, as, _, _, sr, hl, _⟩ := q
    have := sr.len
    rw [List.length_map] at this
    omega
  · obtain ⟨w0, h, as, rfl, hr0, sr, hl, ha, p⟩ := hsp
    refine ⟨_, hb cdv A outer s w0.H E vs (fun c d _ H => E c d H) w0 as hr (takes_of rfl rfl rfl rfl), ?_⟩
    have hpl : ps.length ≤ N.length := by have := congrArg List.length S.pre; rw [List.length_take] at this; omega
    have si := SI.start (F := frOf b vs E w0 as) (N := N) hr0 sr ha (show as.length ≤ N.length by omega)
    refine ⟨w0, _, h, rfl, si, PoG.body (F := frOf b vs E w0 as) (E := E) (fun _ _ _ _ z => z) ?_⟩
    show PoG b w0 as vs Q E (m (env0 (N.length - as.length) as) h)
    rw [hl]
    exact p
/-- a promise of nothing -/
theorem Dn.bad {x : Str} {n k : Nat} {dts : List T} {cv : List T → Hs → Res T} (D : Dn P w K mg base b x n dts k cv) : Dn P w K mg base b x n dts k fun _ _ => .bad := by
  obtain ⟨f, fd, ps, ds, dvs, F, r⟩ := D.ex
  refine ⟨f, fd, ps, ds, dvs, F.imp fun vs H Q E z => ?_, r⟩
  obtain ⟨w1, h1, ts, e, hr, rr, hl, p⟩ := z
  exact p.elim
theorem fn_bad {f : Addr} {fd : FuncData} {ps : List Str} {n k : Nat} : FnOk P w K mg base (L2.CX P w) k f fd ps (spV b n fun _ _ => .bad) := by
  refine ⟨fun vs H Q E q => ?_, fun A outer s H args us vs Q E hr he hb hv q => ?_⟩ <;> obtain ⟨_, _, _, _, _, _, _, p⟩ := q <;> exact p.elim

/-- THE END: the law on a script says True -/
theorem law_end {cv : List T → Hs → Res T} {H : Hp} {a : Addr} {ns : List Int} {h' : Hs} (hO : Only H) (hS : SqL b.K H a (ns.map V.int)) (hv : cv [.scr ns] [] = .ok (.bl true) h') :
    spV b 1 cv [.ref a] H (fun v _ => v = .bl true) fun _ _ _ => False := by
  refine ⟨⟨fun _ => False, [], H⟩, [], [.scr ns], rfl, ⟨rfl, List.nodup_nil, fun n t q => by simp at q, fun a m => (by cases m), fun a m => m.elim⟩, RepL.one ?_, rfl, ?_⟩
  · unfold Rep
    refine ⟨a, rfl, ?_⟩
    rcases hS with h | h
    · rcases h with h | ⟨o, h⟩
      · rcases hO a with z | ⟨o, xs, z⟩
        · rw [h] at z; cases z
        · rw [h] at z; cases z
      · exact .inl ⟨o, h⟩
    · exact .inr fun H' => .inr h
  · rw [hv]
    intro g w' _ _ r
    have r : Rep b w' (.bl true) g := r
    unfold Rep at r
    exact r
theorem cx_none (w : World) (P : Program) (H : Hp) (s : Shared) (e : Value) (s' : Shared) (z : L2.CX P w [] H s (fun _ _ _ => False) e s') : False := by
  obtain ⟨_, _, _, _, _, _, _, _, _, _, _, _, h⟩ := z
  exact h
end
end Y
/-! Y16: lists unpacked, blocks of comprehensions. -/
namespace Y
open PySem L2
def gUnlM (is : List Nat) : T → Hs → En → Option En := fun t h e => match lstOf h t with
  | some ts => setsV e is ts
  | none => none
theorem gt_unl {F : Fr} {K : PySem.W.Frag} {n : Nat} (is : List Nat) (hn : is.length = n) : GT F (gUnl K n (gNames is)) is (gUnlM is) where
  ok := fun w e h σ t v e' Q sr hr rv q k => by
    unfold gUnlM at q
    split at q
    · rename_i ts ht
      obtain ⟨a, vs, rfl, h1, h2⟩ := lstOf_rep hr ht (rv.b hr)
      refine ⟨a, vs, rfl, SqL.of h1, ?_, gnames_ok is e σ ts vs e' Q sr h2 q k⟩
      rw [h2.len, setsV_len q, hn]
    · cases q
  en := fun t h e e' q => by
    unfold gUnlM at q
    split at q
    · exact sets_en is e _ e' q
    · cases q
def blkOkB (N : List Str) (sc scope : Scope) (own : List (Str × Nat)) : Bool :=
  (match scope.kind with
    | .function => true
    | _ => false) && (scope.names.all fun y => decide (scope.names.lookup y.1 = some y.2)) && (own.all fun p => decide (N[p.2]? = some p.1)) &&
  (scope.names.all fun y => decide (y.2 ≠ .free) || decide (sc.names.lookup y.1 = some .cell) || decide (sc.names.lookup y.1 = some .free)) &&
  (scope.names.all fun y => !(decide (y.2 = .local) || decide (y.2 = .cell)) || (own.map (·.1)).contains y.1 || !N.contains y.1)
theorem blk_of {N N' : List Str} {sc sc' scope : Scope} {own : List (Str × Nat)} (hN : N' = N) (hs : sc' = sc) (h : blkOkB N sc scope own = true) : BlkOk N' sc' scope own := by
  subst hN hs
  unfold blkOkB at h
  simp only [Bool.and_eq_true, List.all_eq_true, decide_eq_true_eq, Bool.or_eq_true, Bool.not_eq_true'] at h
  obtain ⟨⟨⟨⟨h1, h2⟩, h3⟩, h4⟩, h5⟩ := h
  refine ⟨?_, fun y hy => h2 y hy, fun p hp => h3 p hp, fun y hy e => ?_, fun y hy e => ?_⟩
  · cases q : scope.kind <;> rw [q] at h1 <;> first | rfl | cases h1
  · rcases h4 y hy with (z | z) | z
    · exact absurd e z
    · exact .inl z
    · exact .inr z
  · rcases h5 y hy with (z | z) | z
    · rw [Bool.or_eq_false_iff] at z
      rcases e with e | e
      · exact absurd e (of_decide_eq_false z.1)
      · exact absurd e (of_decide_eq_false z.2)
    · exact .inl (List.contains_iff_mem.mp z)
    · exact .inr fun m => by rw [List.contains_iff_mem.mpr m] at z; cases z
/-- the table of a law: the classes by number -/
def tbl (K : PySem.W.Frag) (cn : Nat → Str) : Tb := ⟨K, fun c => He.ga K (cn c)⟩
end Y
/-! Y17: a head with one more question. -/
namespace Y
open PySem PySem.Spec PyProof.Rows L2 He
/-- the keyword-only default x of the def at f, if it is an object -/
def kwAt (f : Str × Option Str) (x : Str) (K : PySem.W.Frag) : Addr := match K.lookup (fAd K f) with
  | some ⟨_, _, .func fd, _⟩ => (match fd.kwdefaults with
    | .ref D => (match PySem.W.nsIn K D x with
      | some (some (.ref a)) => a
      | _ => 0)
    | _ => 0)
  | _ => 0
/-- at a stands an empty tuple -/
def tup0B (K : PySem.W.Frag) (a : Addr) : Bool := match K.lookup a with
  | some ⟨.type c, _, .seq its _, _⟩ => decide (c = "tuple") && decide (its.size = 0)
  | _ => false
theorem tup0_ok {K : PySem.W.Frag} {a : Addr} (h : tup0B K a = true) (H : Hp) : SqT K H a [] := by
  unfold tup0B at h
  cases q : K.lookup a with
  | none => rw [q] at h; cases h
  | some o =>
    obtain ⟨oc, od, dt, osl⟩ := o
    rw [q] at h
    cases oc with
    | type c =>
      cases dt with
      | seq its n =>
        obtain ⟨h1, h2⟩ := ba (show (decide (c = "tuple") && decide (its.size = 0)) = true from h)
        have e := of_decide_eq_true h2
        have e' : its.toList = [] := by
          apply List.eq_nil_of_length_eq_zero
          rw [Array.length_toList]; exact e
        refine .inr ⟨_, its, n, q, congrArg Value.type (of_decide_eq_true h1), rfl, by rw [e]; exact Nat.zero_le _, ?_⟩
        rw [e']
        exact .nil
      | _ => cases h
    | _ => cases dt <;> cases h
/-! the hook of HeadHook2 with a further question ex -/
def obsX (ex : PySem.W.Frag → Bool) (fa : List Fa) (fn : List DefD) (K : PySem.W.Frag) : Bool × AlD := (ex K, obsD fa fn K)
def obsXG (n : Nat) (ex : PySem.W.Frag → Bool) (fa : List Fa) (fn : List DefD) (g : Addr → Option Obj) : Bool × AlD := obsX ex fa fn (frG g (asD g n))
def hookX (n : Nat) (ex : PySem.W.Frag → Bool) (fa : List Fa) (fn : List DefD) : PySem.W.Hook where
  α := Bool × AlD
  obs := fun s => obsXG n ex fa fn s.heap.get?
  val := fun _ => (true, valD fn)
  says := fun _ h => ∃ K : PySem.W.Frag, K.In h ∧ SaysD fa fn K ∧ ex K = true
  of := fun _ s e => ⟨frG s.heap.get? (asD s.heap.get? n), frG_in, congrArg (fun z : Bool × AlD => z.2) e, congrArg (fun z : Bool × AlD => z.1) e⟩
  keeps := fun _ _ _ ⟨K, hK, c⟩ k => ⟨K, PySem.W.Frag.In.keeps hK k, c⟩
theorem obsXG_eq {n : Nat} {ex : PySem.W.Frag → Bool} {fa : List Fa} {fn : List DefD} {g : Addr → Option Obj} {s : Shared} (h : ∀ a, g a = s.heap.get? a) : obsXG n ex fa fn g = (hookX n ex fa fn).obs s := by
  have e : g = s.heap.get? := funext h
  rw [e] <;> rfl
theorem st_bool {X : Cx} {e : Expr} {t : TT} (h : PW X e t) : PT X e t := h.pt
theorem bt_len : bootBuiltins "len" = some (.builtin "len") := by decide +kernel
theorem bt_min : bootBuiltins "min" = some (.builtin "min") := by decide +kernel
theorem bt_max : bootBuiltins "max" = some (.builtin "max") := by decide +kernel
theorem bt_abs : bootBuiltins "abs" = some (.builtin "abs") := by decide +kernel
theorem bt_sum : bootBuiltins "sum" = some (.builtin "sum") := by decide +kernel
theorem bt_all : bootBuiltins "all" = some (.builtin "all") := by decide +kernel
theorem bt_repr : bootBuiltins "repr" = some (.builtin "repr") := by decide +kernel
theorem bt_sorted : bootBuiltins "sorted" = some (.builtin "sorted") := by decide +kernel
theorem bt_isinstance : bootBuiltins "isinstance" = some (.builtin "isinstance") := by decide +kernel
theorem bt_list : bootBuiltins "list" = some (.type "list") := by decide +kernel
theorem bt_tuple : bootBuiltins "tuple" = some (.type "tuple") := by decide +kernel
theorem bt_int : bootBuiltins "int" = some (.type "int") := by decide +kernel
theorem bt_bool : bootBuiltins "bool" = some (.type "bool") := by decide +kernel
theorem bt_str : bootBuiltins "str" = some (.type "str") := by decide +kernel
theorem bt_set : bootBuiltins "set" = some (.type "set") := by decide +kernel
/-- the law's end over a head by facts, a promise by values -/
theorem walk_ofY {l : PySem.W.OpenLaw} {n k : Nat} {q : Program} {loose : List Str} {XP : (Str → Option Value) → Heap → Prop} {YP : World → Heap → Prop} {d : DefRec} {x : Str}
    (hn : l.most = some n) (hn2 : n ≤ sizeLine) (hdf : d.params.defaults = []) (hr : Room k callerA)
    (F : ∀ (w : World) (mg : Str → Option Value) (fa : Addr) (h : Heap), YP w h → h.Ns mainGlobals mg → mg d.name = some (.ref fa) →
      ∃ (K : PySem.W.Frag) (fd : FuncData) (b : Tb) (cv : List T → Hs → Res T), K.In h ∧ b.K = K ∧ (∀ (s : Shared) (u : Value), BindsTo s fd ⟨[u], []⟩ [(x, u)]) ∧
        (∀ ns : List Int, ns.length ≤ n → ∃ h', cv [.scr ns] [] = .ok (.bl true) h') ∧
        ∀ base : Heap, K.In base → base.Ns mainGlobals mg → FnOk l.prog w K mg base (L2.CX l.prog w) k fa fd [x] (spV b 1 cv)) :
    PySem.W.WalkO q loose XP YP l.row.toRowW d [] (fun f vs => PySem.call f vs) := by
  refine Att.attach_call hn hdf fun w s₀ s₁ mg mb fa o pm cd doc a vs ns G Y ho hd hcd hmg hobj hints hlen hg => ?_
  obtain ⟨K, fd, b, cv, KX, hbK, hb, hv, hF⟩ := F w mg fa _ Y G.T.g hmg
  refine law_call KX G.T.g G.T.b G.T.builtins G.T.nolimit hg hobj hints (Nat.le_trans hlen hn2) hr hF hb (fun H hO hS => ?_) fun H e s' z => cx_none w l.prog H s₁ e s' z
  obtain ⟨h', hv⟩ := hv ns hlen
  exact law_end hO (by rw [hbK]; exact hS) hv
end Y
/-! Y18: the mirrors run by simp. -/
namespace Y
open PySem L2
section
variable (e : En) (h : Hs) (i j k n : Nat) (t u : T) (m m' : EM) (s s' : SM) (am am' : AM) (tt tt' : En → Hs → Res Bool) (f : T → T → Hs → Res T)
@[simp] theorem ev_var : varM i e h = match e[i]? with
  | some (.val t) => .ok t h
  | _ => .bad := rfl
@[simp] theorem ev_own : ownM i e h = match e[i]? with
  | some (.own t) => .ok t h
  | some (.io t) => .ok t h
  | _ => .bad := rfl
@[simp] theorem ev_c : cM t e h = .ok t h := rfl
@[simp] theorem ev_op : opM f m m' e h = (m e h).bind fun x h1 => (m' e h1).bind fun y h2 => f x y h2 := rfl
def asB : T → Hs → Res Bool
  | .bl k, h => .ok k h
  | _, _ => .bad
@[simp] theorem ev_asB (b : Bool) : asB (.bl b) h = .ok b h := rfl
@[simp] theorem ev_tst : tst m e h = (m e h).bind asB := by
  show (m e h).bind _ = _
  generalize m e h = r
  cases r with
  | ok t h1 => cases t <;> rfl
  | exc c fs h1 => rfl
  | bad => rfl
@[simp] theorem ev_and : andM m m' e h = (m e h).bind fun t h1 => (asB t h1).bind fun b h2 => if b = true then m' e h2 else .ok (.bl false) h2 := by
  show (m e h).bind _ = _
  generalize m e h = r
  cases r with
  | ok t h1 =>
    cases t with
    | bl b => cases b <;> rfl
    | _ => rfl
  | exc c fs h1 => rfl
  | bad => rfl
@[simp] theorem ev_or : orM m m' e h = (m e h).bind fun t h1 => (asB t h1).bind fun b h2 => if b = true then .ok (.bl true) h2 else m' e h2 := by
  show (m e h).bind _ = _
  generalize m e h = r
  cases r with
  | ok t h1 =>
    cases t with
    | bl b => cases b <;> rfl
    | _ => rfl
  | exc c fs h1 => rfl
  | bad => rfl
@[simp] theorem ev_not : notM m e h = (m e h).bind fun t h1 => (asB t h1).bind fun b h2 => .ok (.bl !b) h2 := by
  show (m e h).bind _ = _
  generalize m e h = r
  cases r with
  | ok t h1 =>
    cases t with
    | bl b => cases b <;> rfl
    | _ => rfl
  | exc c fs h1 => rfl
  | bad => rfl
@[simp] theorem ev_if : ifM tt m m' e h = (tt e h).bind fun k h1 => if k = true then m e h1 else m' e h1 := rfl
@[simp] theorem ev_andT : andT tt tt' e h = (tt e h).bind fun k h1 => if k = true then tt' e h1 else .ok false h1 := rfl
@[simp] theorem ev_orT : orT tt tt' e h = (tt e h).bind fun k h1 => if k = true then .ok true h1 else tt' e h1 := rfl
@[simp] theorem ev_notT : notT tt e h = (tt e h).bind fun k h1 => .ok (!k) h1 := rfl
@[simp] theorem ev_nil : anil e h = .ok [] h := rfl
@[simp] theorem ev_cons : acons m am e h = (m e h).bind fun x h1 => (am e h1).bind fun xs h2 => .ok (x :: xs) h2 := rfl
@[simp] theorem ev_tup : tupM am e h = (am e h).bind fun xs h1 => if fits xs.length = true then .ok (.tup xs) h1 else .bad := rfl
@[simp] theorem ev_lst : lstM am e h = (am e h).bind fun xs h1 => if fits xs.length = true then .ok (.lst xs) h1 else .bad := rfl
@[simp] theorem ev_callB (g : List T → Hs → Res T) : callBM g am e h = (am e h).bind g := rfl
@[simp] theorem ev_call (dts : List T) (cv : List T → Hs → Res T) : callM n dts cv am e h = (am e h).bind fun ts h1 => if (ts ++ dts).length = n then cv (ts ++ dts) h1 else .bad := rfl
@[simp] theorem ev_fld (c : Nat) (x : Str) : fldM c x m e h = (m e h).bind fun t h1 => fldF c x t h1 := rfl
@[simp] theorem ev_alloc : allocM m e h = (m e h).bind fun t h1 => .ok (.ref h1.length) (h1 ++ [t]) := rfl
@[simp] theorem ev_isT (ty : Ty) : isTM ty m e h = (m e h).bind fun t h1 => match kdOf h1 t with
  | some k => .ok (.bl (k.is ty)) h1
  | none => .bad := rfl
@[simp] theorem ev_slice (a b : OM) : sliceM m a b e h = (m e h).bind fun t h1 => (a e h1).bind fun l h2 => (b e h2).bind fun u h3 => match sqlOf h3 t with
  | some xs => .ok (.lst (cutT xs l u)) h3
  | none => .bad := rfl
@[simp] theorem ev_onone : onone e h = .ok none h := rfl
@[simp] theorem ev_osome : osome m e h = (m e h).bind fun t h1 => match t with
  | .int i => .ok (some i) h1
  | _ => .bad := rfl
@[simp] theorem ev_rev : revM m e h = (m e h).bind fun t h1 => match lstOf h1 t with
  | some xs => .ok (.lst xs.reverse) h1
  | none => .bad := rfl
@[simp] theorem ev_mk (c : Nat) (dts : List T) (cf : List Sl → Hs → SRes) : mkM c n dts cf am e h = (am e h).bind fun ts h1 => mkF c n cf (ts ++ dts) h1 := rfl
@[simp] theorem ev_mkK (c np nk : Nat) (gT : List T → List T → List T) (cf : List Sl → Hs → SRes) : mkKM c n np nk gT cf am am' e h = (am e h).bind fun ts h1 => (am' e h1).bind fun us h2 => if ts.length = np ∧ us.length = nk then mkF c n cf (gT ts us) h2 else .bad := rfl
@[simp] theorem ev_mkF (c : Nat) (cf : List Sl → Hs → SRes) (ts : List T) : mkF c n cf ts h = if ts.length + 1 = n then mkR c (cf (.own (.ins c [] []) :: ts.map Sl.val) h) else .bad := rfl
@[simp] theorem ev_mkR1 (c : Nat) : mkR c (.nx e h) = mkFin c e h := rfl
@[simp] theorem ev_mkR2 (c : Nat) : mkR c (.rt .non e h) = mkFin c e h := rfl
@[simp] theorem ev_mkFin (c : Nat) (c' : Nat) (ks : List Str) (us : List T) (r : En) : mkFin c (.io (.ins c' ks us) :: r) h = if c' = c then .ok (.ins c ks us) h else .bad := rfl
@[simp] theorem ev_meth (c : Nat) (x : Str) (dts : List T) (cv : List T → Hs → Res T) : methM c x n dts cv m am e h = (m e h).bind fun o h1 => match insOf h1 o with
  | some (c', ks, _) => if c' = c ∧ ks.contains x = false then (am e h1).bind fun ts h2 => if (o :: (ts ++ dts)).length = n then cv (o :: (ts ++ dts)) h2 else .bad else .bad
  | none => .bad := rfl
@[simp] theorem ev_ins (c : Nat) (ks : List Str) (ts : List T) : insOf h (.ins c ks ts) = some (c, ks, ts) := rfl
/-! statements -/
@[simp] theorem ev_nilS : nilS e h = .nx e h := rfl
def SRes.then (r : SRes) (g : En → Hs → SRes) : SRes := match r with
  | .nx e h => g e h
  | r => r
@[simp] theorem th_nx (g : En → Hs → SRes) : (SRes.nx e h).then g = g e h := rfl
@[simp] theorem th_rt (g : En → Hs → SRes) : (SRes.rt t e h).then g = .rt t e h := rfl
@[simp] theorem th_brk (g : En → Hs → SRes) : (SRes.brk e h).then g = .brk e h := rfl
@[simp] theorem th_cnt (g : En → Hs → SRes) : (SRes.cnt e h).then g = .cnt e h := rfl
@[simp] theorem th_exc (c : Nat) (fs : Option (List Str × List T)) (g : En → Hs → SRes) : (SRes.exc c fs e h).then g = .exc c fs e h := rfl
@[simp] theorem th_bad (g : En → Hs → SRes) : SRes.bad.then g = .bad := rfl
@[simp] theorem ev_seq : seqS s s' e h = (s e h).then s' := rfl
@[simp] theorem ev_ret : retS m e h = (m e h).go e fun t h1 => .rt t e h1 := rfl
@[simp] theorem ev_retN : retNS e h = .rt .non e h := rfl
@[simp] theorem ev_ifS : ifS tt s s' e h = (tt e h).go e fun k h1 => if k = true then s e h1 else s' e h1 := rfl
def nxO (o : Option En) (h : Hs) : SRes := match o with
  | some e' => .nx e' h
  | none => .bad
@[simp] theorem nxO_some : nxO (some e) h = .nx e h := rfl
@[simp] theorem ev_asg (g : T → Hs → En → Option En) : asgS m g e h = (m e h).go e fun t h1 => nxO (g t h1 e) h1 := by
  show (m e h).go e _ = _
  generalize m e h = r
  cases r with
  | ok t h1 =>
    show (match g t h1 e with
      | some e' => SRes.nx e' h1
      | none => .bad) = nxO (g t h1 e) h1
    cases g t h1 e <;> rfl
  | exc c fs h1 => rfl
  | bad => rfl
@[simp] theorem ev_expr : exprS m e h = (m e h).go e fun _ h1 => .nx e h1 := rfl
@[simp] theorem ev_hset : hsetS m m' m'' e h = (m'' e h).go e fun v h1 => (m e h1).go e fun o h2 => (m' e h2).go e fun i h3 => hputF o i v e h3 := rfl
@[simp] theorem ev_hput (z : Int) : hputF (.ref n) (.int z) t e h = match h[n]? with
  | some (.lst xs) => match ixN xs.length z with
    | some j => .nx e (h.set n (.lst (xs.set j t)))
    | none => .bad
  | _ => .bad := rfl
@[simp] theorem ev_new : newS i m e h = (m e h).go e fun t h1 => match e[i]? with
  | some (.io _) => .bad
  | some _ => .nx (e.set i (.own t)) h1
  | none => .bad := rfl
@[simp] theorem ev_frz : frzS i s e h = match e[i]? with
  | some (.own t) => s (e.set i (.val t)) h
  | _ => .bad := rfl
@[simp] theorem ev_app : appC i m e h = match cell e h i with
  | some _ => (m e h).go e fun t h1 => match cell e h1 i with
    | some xs => if decide (xs.length < sizeLine) = true then .nx (putCell e h1 i (xs ++ [t])).1 (putCell e h1 i (xs ++ [t])).2 else .bad
    | none => .bad
  | none => .bad := rfl
@[simp] theorem ev_revC : revC i e h = match cell e h i with
  | some xs => .nx (putCell e h i xs.reverse).1 (putCell e h i xs.reverse).2
  | none => .bad := rfl
@[simp] theorem ev_fldS (c : Nat) (x : Str) : fldS c i x m e h = (m e h).go e fun t h1 => match mineAt e i with
  | some (.ins c' ks ts) => if c' = c ∧ ks.length < 1000 then .nx (putE e i (.ins c (putFT x t ks ts).1 (putFT x t ks ts).2)) h1 else .bad
  | _ => .bad := rfl
@[simp] theorem ev_star : starS i j m e h = (m e h).go e fun t h1 => match t with
  | .tup xs => match xs[xs.length - 1]? with
    | some y => nxO ((setV e i (.lst (xs.take (xs.length - 1)))).bind fun e' => setV e' j y) h1
    | none => .bad
  | _ => .bad := by
  show (m e h).go e _ = _
  generalize m e h = r
  cases r with
  | ok t h1 =>
    cases t with
    | tup xs =>
      show (match xs[xs.length - 1]? with
        | some y => match (setV e i (.lst (xs.take (xs.length - 1)))).bind fun e' => setV e' j y with
          | some e' => SRes.nx e' h1
          | none => .bad
        | none => .bad) = match xs[xs.length - 1]? with
        | some y => nxO ((setV e i (.lst (xs.take (xs.length - 1)))).bind fun e' => setV e' j y) h1
        | none => .bad
      cases xs[xs.length - 1]? with
      | none => rfl
      | some y => cases (setV e i (.lst (xs.take (xs.length - 1)))).bind fun e' => setV e' j y <;> rfl
    | _ => rfl
  | exc c fs h1 => rfl
  | bad => rfl
@[simp] theorem ev_gOne : gOne i t h e = setV e i t := rfl
@[simp] theorem ev_setV : setV e i t = match e[i]? with
  | some (.io _) => none
  | some _ => some (e.set i (.val t))
  | none => none := rfl
@[simp] theorem ev_gTup (is : List Nat) (xs : List T) : gTupM is (.tup xs) h e = setsV e is xs := rfl
@[simp] theorem ev_gUnl (is : List Nat) (xs : List T) : gUnlM is (.lst xs) h e = setsV e is xs := rfl
@[simp] theorem ev_sets0 : setsV e [] [] = some e := rfl
@[simp] theorem ev_sets1 (is : List Nat) (xs : List T) : setsV e (i :: is) (t :: xs) = (setV e i t).bind fun e1 => setsV e1 is xs := rfl
@[simp] theorem ev_fnV : fnV k s = fun ts h => (s (ts.map Sl.val ++ List.replicate k .no) h).val := rfl
@[simp] theorem ev_fnS : fnS k s = fun as h => s (env0 k as) h := rfl
@[simp] theorem ev_env0 (as : List Sl) : env0 k as = as.map lend ++ List.replicate k .no := rfl
@[simp] theorem ev_lend1 : lend (.own t) = .io t := rfl
@[simp] theorem ev_lend2 : lend (.val t) = .val t := rfl
@[simp] theorem val_nx : (SRes.nx e h).val = .ok .non h := rfl
@[simp] theorem val_rt : (SRes.rt t e h).val = .ok t h := rfl
@[simp] theorem val_exc (c : Nat) (fs : Option (List Str × List T)) : (SRes.exc c fs e h).val = .exc c fs h := rfl
@[simp] theorem val_bad : SRes.bad.val = .bad := rfl
@[simp] theorem calm_ok {α : Type} (a : α) : (Res.ok a h).calm = .ok a h := rfl
/-! the operations -/
variable (a b : Int)
@[simp] theorem ev_add : addF (.int a) (.int b) h = .ok (.int (a + b)) h := rfl
@[simp] theorem ev_addL (xs ys : List T) : addF (.lst xs) (.lst ys) h = if fits (xs.length + ys.length) = true then .ok (.lst (xs ++ ys)) h else .bad := rfl
@[simp] theorem ev_sub : subF (.int a) (.int b) h = .ok (.int (a - b)) h := rfl
@[simp] theorem ev_mul : mulF (.int a) (.int b) h = if (smallI a || smallI b) = true then .ok (.int (a * b)) h else .bad := rfl
@[simp] theorem ev_div : divF (.int a) (.int b) h = if (decide (0 < b) && decide (b < 2 ^ 64)) = true then .ok (.int (a / b)) h else .bad := rfl
@[simp] theorem ev_mod : modF (.int a) (.int b) h = if decide (0 < b) = true then .ok (.int (a % b)) h else .bad := rfl
@[simp] theorem ev_pow : powF (.int a) (.int b) h = if (decide (0 ≤ b) && decide (b ≤ 1000) && smallI a) = true then .ok (.int (a ^ b.toNat)) h else .bad := rfl
@[simp] theorem ev_lt : ltF (.int a) (.int b) h = .ok (.bl (decide (a < b))) h := rfl
@[simp] theorem ev_le : leF (.int a) (.int b) h = .ok (.bl (decide (a ≤ b))) h := rfl
@[simp] theorem ev_gt : gtF (.int a) (.int b) h = .ok (.bl (decide (b < a))) h := rfl
@[simp] theorem ev_ge : geF (.int a) (.int b) h = .ok (.bl (decide (b ≤ a))) h := rfl
@[simp] theorem ev_is : isF t .non h = .ok (.bl t.isNon) h := rfl
@[simp] theorem ev_isnt : isntF t .non h = .ok (.bl !t.isNon) h := rfl
@[simp] theorem nn_non : T.non.isNon = true := rfl
@[simp] theorem nn_int : (T.int a).isNon = false := rfl
@[simp] theorem nn_tup (xs : List T) : (T.tup xs).isNon = false := rfl
@[simp] theorem nn_lst (xs : List T) : (T.lst xs).isNon = false := rfl
@[simp] theorem nn_bl (b : Bool) : (T.bl b).isNon = false := rfl
@[simp] theorem ev_ix : ixF t (.int a) h = match seqOf h t with
  | some xs => match atI xs a with
    | some t => .ok t h
    | none => .bad
  | none => .bad := by
  unfold ixF
  cases seqOf h t <;> rfl
@[simp] theorem sq_tup (xs : List T) : seqOf h (.tup xs) = some xs := rfl
@[simp] theorem sq_lst (xs : List T) : seqOf h (.lst xs) = some xs := rfl
@[simp] theorem sq_scr (xs : List Int) : seqOf h (.scr xs) = some (xs.map .int) := rfl
@[simp] theorem sl_scr (xs : List Int) : sqlOf h (.scr xs) = some (xs.map .int) := rfl
@[simp] theorem sl_lst (xs : List T) : sqlOf h (.lst xs) = some xs := rfl
@[simp] theorem lo_lst (xs : List T) : lstOf h (.lst xs) = some xs := rfl
@[simp] theorem lo_ref : lstOf h (.ref n) = match h[n]? with
  | some (.lst xs) => some xs
  | _ => none := rfl
@[simp] theorem sq_ref : seqOf h (.ref n) = match h[n]? with
  | some (.lst xs) => some xs
  | _ => none := rfl
@[simp] theorem ev_len (hs : ∀ x, t ≠ .str x) (hk : ∀ ks ts, t ≠ .dk ks ts) : lenF [t] h = match seqOf h t with
  | some xs => .ok (.int xs.length) h
  | none => .bad := by
  cases t with
  | str x => exact absurd rfl (hs x)
  | dk ks ts => exact absurd rfl (hk ks ts)
  | _ => rfl
@[simp] theorem ev_list : listF [t] h = match seqOf h t with
  | some xs => .ok (.lst xs) h
  | none => .bad := rfl
@[simp] theorem ev_tuple : tupleF [t] h = match lstOf h t with
  | some xs => .ok (.tup xs) h
  | none => .bad := rfl
@[simp] theorem ev_abs : absF [.int a] h = .ok (.int (if a < 0 then -a else a)) h := rfl
@[simp] theorem ev_min2 : minF [.int a, .int b] h = .ok (.int (min a b)) h := rfl
@[simp] theorem ev_max2 : maxF [.int a, .int b] h = .ok (.int (max a b)) h := rfl
@[simp] theorem ev_min3 (c : Int) : minF [.int a, .int b, .int c] h = .ok (.int (min (min a b) c)) h := rfl
@[simp] theorem ev_max3 (c : Int) : maxF [.int a, .int b, .int c] h = .ok (.int (max (max a b) c)) h := rfl
@[simp] theorem ev_minL (xs : List T) : minF [.lst xs] h = match intsOf xs with
  | some ns => match minL ns with
    | some m => .ok (.int m) h
    | none => .bad
  | none => .bad := rfl
@[simp] theorem ev_maxL (xs : List T) : maxF [.lst xs] h = match intsOf xs with
  | some ns => match maxL ns with
    | some m => .ok (.int m) h
    | none => .bad
  | none => .bad := rfl
@[simp] theorem io_nil : intsOf [] = some [] := rfl
@[simp] theorem io_cons (xs : List T) : intsOf (.int a :: xs) = (intsOf xs).map (a :: ·) := rfl
@[simp] theorem ev_forS (src : SrcM) (g : T → Hs → En → Option En) : forS src g s e h = (src e h).go e fun rd h1 => match rd h1 with
  | some ys => forL rd g s ys.length 0 e h1
  | none => .bad := rfl
@[simp] theorem ev_seqSrc : seqSrc m e h = (m e h).bind fun t h1 => match seqOf h1 t with
  | some _ => .ok (fun h' => seqOf h' t) h1
  | none => .bad := rfl
@[simp] theorem ev_rng1 : rng1Src m e h = (m e h).bind fun t h1 => match t with
  | .int n => if big62 n = true then (.ok (fun (_ : Hs) => some (rngL 0 n.toNat)) h1 : Res Rdr) else .bad
  | _ => .bad := rfl
@[simp] theorem ev_comp (src : SrcM) (g : T → Hs → En → Option En) (vs : List Nat) : compM src g tt m vs e h = (src e h).bind fun rd h1 => match rd h1 with
  | some ys => if decide (ys.length < sizeLine) = true then compL rd g tt m (wipeE e vs) ys.length 0 [] h1 else .bad
  | none => .bad := rfl
@[simp] theorem ev_yes : tyes e h = .ok true h := rfl
@[simp] theorem ev_wipe0 : wipeE e [] = e := rfl
@[simp] theorem ev_wipe1 (vs : List Nat) : wipeE e (i :: vs) = (wipeE e vs).set i .no := rfl
end
theorem smallI_of {i : Int} (h1 : -(2 ^ 64) < i) (h2 : i < 2 ^ 64) : smallI i = true := by
  unfold smallI
  rw [decide_eq_true h1, decide_eq_true h2]
  rfl
theorem fits_of {n : Nat} (h : n ≤ 1000) : fits n = true := decide_eq_true (Nat.le_of_lt (small1000 h))
/-- an index in the range -/
theorem atI_lt {α : Type} {xs : List α} {i : Int} (h0 : 0 ≤ i) (h1 : i < xs.length) : ∃ x, x ∈ xs ∧ atI xs i = some x ∧ xs[i.toNat]? = some x := by
  have hl : i.toNat < xs.length := by omega
  refine ⟨xs[i.toNat], List.getElem_mem hl, ?_, List.getElem?_eq_getElem hl⟩
  unfold atI ixN
  rw [if_pos h0, if_pos h1]
  exact List.getElem?_eq_getElem hl
theorem ixN_lt {n : Nat} {i : Int} (h0 : 0 ≤ i) (h1 : i < n) : ixN n i = some i.toNat := by
  unfold ixN
  rw [if_pos h0, if_pos h1]
section
variable {α : Type} (x y z u v w : α) (r : List α)
@[simp] theorem at0 : atI (x :: r) 0 = some x := atI_nat (j := 0) rfl
@[simp] theorem at1 : atI (x :: y :: r) 1 = some y := atI_nat (j := 1) rfl
@[simp] theorem at2 : atI (x :: y :: z :: r) 2 = some z := atI_nat (j := 2) rfl
@[simp] theorem at3 : atI (x :: y :: z :: u :: r) 3 = some u := atI_nat (j := 3) rfl
@[simp] theorem at4 : atI (x :: y :: z :: u :: v :: r) 4 = some v := atI_nat (j := 4) rfl
@[simp] theorem at5 : atI (x :: y :: z :: u :: v :: w :: r) 5 = some w := atI_nat (j := 5) rfl
end
@[simp] theorem ix31 : ixN 3 1 = some 1 := rfl
@[simp] theorem ix32 : ixN 3 2 = some 2 := rfl
@[simp] theorem ev_fits (n : Nat) : fits n = decide (n ≤ 16777216) := by
  unfold fits
  rw [sizeLine_eq]
@[simp] theorem line_eq : (sizeLine : Nat) = 16777216 := sizeLine_eq
theorem cut_head {α : Type} (xs : List α) (n : Nat) (h : xs.length ≤ n) : cutT xs none (some (n : Int)) = xs := by
  unfold cutT
  rw [HT.sIx_none, HT.sIx_nat, List.drop_zero, Nat.sub_zero, Nat.min_eq_right h, List.take_length]
@[simp] theorem ma_io (t : T) (r : En) : mineAt (.io t :: r) 0 = some t := rfl
@[simp] theorem pe_io (t u : T) (r : En) : putE (.io t :: r) 0 u = .io u :: r := rfl
/-! loops by invariants -/
theorem for_inv {rd : Rdr} {g : T → Hs → En → Option En} {body : SM} {ys : List T} (P : Nat → En → Hs → Prop) (hrd : ∀ i e h, P i e h → rd h = some ys)
    (step : ∀ (i : Nat) e h x, P i e h → ys[i]? = some x → ∃ e1 e2 h2, g x h e = some e1 ∧ (body e1 h = .nx e2 h2 ∨ body e1 h = .cnt e2 h2) ∧ P (i + 1) e2 h2) :
    ∀ (n i : Nat) e h, i + n = ys.length → P i e h → ∃ e' h', forL rd g body n i e h = .nx e' h' ∧ P ys.length e' h'
  | 0, i, e, h, hi, p => by
    unfold forL
    rw [hrd i e h p]
    have hi' : i = ys.length := by omega
    subst hi'
    exact ⟨e, h, by simp, p⟩
  | n + 1, i, e, h, hi, p => by
    have hlt : i < ys.length := by omega
    have hx : ys[i]? = some ys[i] := List.getElem?_eq_getElem hlt
    obtain ⟨e1, e2, h2, q1, q2, q3⟩ := step i e h _ p hx
    obtain ⟨e', h', r1, r2⟩ := for_inv P hrd step n (i + 1) e2 h2 (by omega) q3
    refine ⟨e', h', ?_, r2⟩
    unfold forL
    rw [hrd i e h p]
    show (match ys[i]? with
      | none => SRes.nx e h
      | some x => match g x h e with
        | some e1 => match body e1 h with
          | .nx e2 h2 => forL rd g body n (i + 1) e2 h2
          | .cnt e2 h2 => forL rd g body n (i + 1) e2 h2
          | .brk e2 h2 => .nx e2 h2
          | r => r
        | none => .bad) = _
    rw [hx]
    show (match g ys[i] h e with
        | some e1 => match body e1 h with
          | .nx e2 h2 => forL rd g body n (i + 1) e2 h2
          | .cnt e2 h2 => forL rd g body n (i + 1) e2 h2
          | .brk e2 h2 => .nx e2 h2
          | r => r
        | none => .bad) = _
    rw [q1]
    rcases q2 with q2 | q2
    · show (match body e1 h with
          | .nx e2 h2 => forL rd g body n (i + 1) e2 h2
          | .cnt e2 h2 => forL rd g body n (i + 1) e2 h2
          | .brk e2 h2 => .nx e2 h2
          | r => r) = _
      rw [q2]
      exact r1
    · show (match body e1 h with
          | .nx e2 h2 => forL rd g body n (i + 1) e2 h2
          | .cnt e2 h2 => forL rd g body n (i + 1) e2 h2
          | .brk e2 h2 => .nx e2 h2
          | r => r) = _
      rw [q2]
      exact r1
theorem compL_succ {rd : Rdr} {g : T → Hs → En → Option En} {tt : En → Hs → Res Bool} {te : EM} {e e1 : En} {ys : List T} {n i : Nat} {acc : List T} {h : Hs} {x : T} (h1 : rd h = some ys) (h2 : ys[i]? = some x) (h3 : g x h e = some e1) :
    compL rd g tt te e (n + 1) i acc h = ((tt e1 h).calm.bind fun k h1 => if k then (te e1 h1).calm.bind fun y h2 => compL rd g tt te e n (i + 1) (acc ++ [y]) h2 else compL rd g tt te e n (i + 1) acc h1) := by
  conv => lhs; unfold compL
  rw [h1]
  dsimp only
  rw [h2]
  dsimp only
  rw [h3]
theorem comp_inv {rd : Rdr} {g : T → Hs → En → Option En} {tt : En → Hs → Res Bool} {te : EM} {e : En} {ys : List T} (P : Nat → List T → Hs → Prop) (hrd : ∀ i acc h, P i acc h → rd h = some ys)
    (step : ∀ (i : Nat) acc h x, P i acc h → ys[i]? = some x → ∃ e1, g x h e = some e1 ∧ ((∃ h1 y h2, tt e1 h = .ok true h1 ∧ te e1 h1 = .ok y h2 ∧ P (i + 1) (acc ++ [y]) h2) ∨ ∃ h1, tt e1 h = .ok false h1 ∧ P (i + 1) acc h1)) :
    ∀ (n i : Nat) acc h, i + n = ys.length → P i acc h → ∃ acc' h', compL rd g tt te e n i acc h = .ok (.lst acc') h' ∧ P ys.length acc' h'
  | 0, i, acc, h, hi, p => by
    unfold compL
    rw [hrd i acc h p]
    have hi' : i = ys.length := by omega
    subst hi'
    exact ⟨acc, h, by simp, p⟩
  | n + 1, i, acc, h, hi, p => by
    have hlt : i < ys.length := by omega
    have hx : ys[i]? = some ys[i] := List.getElem?_eq_getElem hlt
    obtain ⟨e1, q1, q2⟩ := step i acc h _ p hx
    have un : ∀ r, (∃ acc' h', r = Res.ok (.lst acc') h' ∧ P ys.length acc' h') → ((tt e1 h).calm.bind fun k h1 => if k then (te e1 h1).calm.bind fun y h2 => compL rd g tt te e n (i + 1) (acc ++ [y]) h2 else compL rd g tt te e n (i + 1) acc h1) = r →
        ∃ acc' h', compL rd g tt te e (n + 1) i acc h = .ok (.lst acc') h' ∧ P ys.length acc' h' := by
      intro r hr er
      obtain ⟨acc', h', rfl, p'⟩ := hr
      exact ⟨acc', h', (compL_succ (hrd i acc h p) hx q1).trans er, p'⟩
    rcases q2 with ⟨h1, y, h2, a1, a2, a3⟩ | ⟨h1, a1, a2⟩
    · exact un _ (comp_inv P hrd step n (i + 1) (acc ++ [y]) h2 (by omega) a3) (by rw [a1]; show ((te e1 h1).calm.bind fun y h2 => compL rd g tt te e n (i + 1) (acc ++ [y]) h2) = _; rw [a2]; rfl)
    · exact un _ (comp_inv P hrd step n (i + 1) acc h1 (by omega) a2) (by rw [a1]; rfl)
/-- a comprehension that touches nothing -/
theorem comp_map {rd : Rdr} {g : T → Hs → En → Option En} {te : EM} {e : En} {h : Hs} {α : Type} (xs : List α) (F G : α → T) (hrd : rd h = some (xs.map F)) (step : ∀ x, x ∈ xs → ∃ e1, g (F x) h e = some e1 ∧ te e1 h = .ok (G x) h) :
    compL rd g tyes te e xs.length 0 [] h = .ok (.lst (xs.map G)) h := by
  obtain ⟨acc, h', q1, q2, q3⟩ := comp_inv (rd := rd) (g := g) (tt := tyes) (te := te) (e := e) (ys := xs.map F) (fun i acc h' => h' = h ∧ acc = (xs.take i).map G) (fun i acc h' p => by rw [p.1]; exact hrd) (fun i acc h' x p hx => by
    obtain ⟨rfl, rfl⟩ := p
    rw [List.getElem?_map] at hx
    obtain ⟨a, ha, rfl⟩ := Option.map_eq_some_iff.mp hx
    obtain ⟨e1, s1, s2⟩ := step a (List.mem_of_getElem? ha)
    refine ⟨e1, s1, .inl ⟨h', G a, h', rfl, s2, rfl, ?_⟩⟩
    rw [List.take_add_one, ha]
    simp) (xs.map F).length 0 [] h (by omega) ⟨rfl, rfl⟩
  rw [List.length_map] at q1 q3
  rw [q1, q2, q3, List.take_length]
@[simp] theorem deq_int (h : Hs) (a b : Int) : deq h (.int a) (.int b) = some (a == b) := rfl
@[simp] theorem ev_eqI (h : Hs) (a b : Int) : eqF (.int a) (.int b) h = .ok (.bl (a == b)) h := rfl
@[simp] theorem ev_neI (h : Hs) (a b : Int) : neF (.int a) (.int b) h = .ok (.bl !(a == b)) h := rfl
theorem deq_data {h : Hs} {x y : T} {d e : PyData} (hs : ∀ a, x ≠ .str a) (e1 : pdH h x = some d) (e2 : pdH h y = some e) (s1 : SeqAt.shaped d = true) (s2 : SeqAt.shaped e = true) : deq h x y = some (PyData.eqv d e) := by
  have key : (match pdH h x, pdH h y with
    | some d, some e => if SeqAt.shaped d && SeqAt.shaped e then some (PyData.eqv d e) else none
    | _, _ => none) = some (PyData.eqv d e) := by
    rw [e1, e2]
    dsimp only
    rw [s1, s2]
    rfl
  rw [← key]
  cases x with
  | str a => exact absurd rfl (hs a)
  | _ => rfl
theorem eqF_same {h : Hs} {x y : T} {d : PyData} (hs : ∀ a, x ≠ .str a) (e1 : pdH h x = some d) (e2 : pdH h y = some d) (s1 : SeqAt.shaped d = true) : eqF x y h = .ok (.bl true) h := by
  unfold eqF
  rw [deq_data hs e1 e2 s1 s1]
  dsimp only
  rw [SeqAt.eqv_refl d (SeqAt.canLay_of_shaped s1)]
end Y
/-! Y19: what the laws' own small defs do (the same in all laws). -/
namespace Y
open PySem L2
def bg (cells : List Int) (a s : Int) (rest : Hs) : Hs := .lst (cells.map T.int) :: .lst [.ref 0, .int a, .int s] :: rest
def drawT : SM := seqS (ifS (tst (opM geF (varM 4) (opM powF (cM (.int 10)) (cM (.int 18))))) (seqS (hsetS (varM 2) (opM modF (varM 3) (callBM lenF (acons (varM 2) anil))) (opM divF (varM 4) (varM 1))) <|
    retS (opM modF (varM 4) (varM 1))) nilS) <|
    seqS (hsetS (varM 0) (cM (.int 1)) (opM addF (varM 3) (cM (.int 1)))) <|
    seqS (hsetS (varM 0) (cM (.int 2)) (opM modF (opM addF (opM addF (opM addF (opM mulF (opM ixF (varM 0) (cM (.int 2))) (cM (.int 48271))) (opM mulF (varM 4) (cM (.int 9973)))) (opM mulF (varM 3) (cM (.int 31)))) (cM (.int 11))) (cM (.int 2147483647)))) <|
    retS (opM modF (opM divF (opM modF (opM mulF (opM ixF (varM 0) (cM (.int 2))) (cM (.int 69621))) (cM (.int 2147483629))) (cM (.int 64))) (varM 1))
theorem draw_tail (cells : List Int) (a s m c : Int) (rest : Hs) (hm : 0 < m) (hm2 : m < 2 ^ 64) (hc : 10 ^ 18 ≤ c → 0 < cells.length) : ∃ i cells' a' s', (drawT [Sl.val (T.ref 1), Sl.val (T.int m), Sl.val (T.ref 0), Sl.val (T.int a), Sl.val (T.int c)] (bg cells a s rest)).val = .ok (.int i) (bg cells' a' s' rest) ∧ 0 ≤ i ∧ i < m ∧ cells'.length = cells.length := by
  unfold bg drawT
  have hmod : ∀ x : Int, 0 ≤ x % m ∧ x % m < m := fun x => ⟨Int.emod_nonneg _ (by omega), Int.emod_lt_of_pos _ hm⟩
  have s1 : smallI 48271 = true := by decide
  have s2 : smallI 9973 = true := by decide
  have s3 : smallI 31 = true := by decide
  have s4 : smallI 69621 = true := by decide
  have s5 : smallI 10 = true := by decide
  have hm2' : m < 18446744073709551616 := hm2
  by_cases h1 : (1000000000000000000 : Int) ≤ c
  · have hn := hc h1
    have hn' : (0 : Int) < cells.length := by omega
    have q0 : 0 ≤ a % (cells.length : Int) := Int.emod_nonneg _ (by omega)
    have q1 : a % (cells.length : Int) < cells.length := Int.emod_lt_of_pos _ hn'
    refine ⟨c % m, cells.set (a % (cells.length : Int)).toNat (c / m), a, s, ?_, (hmod c).1, (hmod c).2, by simp⟩
    simp [h1, s5, hn, hm, hm2', ixN_lt q0 q1, List.map_set]
  · refine ⟨((s * 48271 + c * 9973 + a * 31 + 11) % 2147483647) * 69621 % 2147483629 / 64 % m, cells, a + 1, (s * 48271 + c * 9973 + a * 31 + 11) % 2147483647, ?_, (hmod _).1, (hmod _).2, rfl⟩
    simp [h1, s1, s2, s3, s4, s5, hm, hm2']
def m_law_draw : SM :=
  seqS (asgS (opM ixF (varM 0) (cM (.int 0))) (gOne 2)) <|
    seqS (asgS (opM ixF (varM 0) (cM (.int 1))) (gOne 3)) <|
    seqS (asgS (cM (.int 0)) (gOne 4)) <|
    seqS (ifS (tst (opM gtF (callBM lenF (acons (varM 2) anil)) (cM (.int 0)))) (asgS (opM ixF (varM 2) (opM modF (varM 3) (callBM lenF (acons (varM 2) anil)))) (gOne 4)) nilS) <|
    seqS (ifS (tst (opM ltF (varM 4) (cM (.int 0)))) (asgS (opM subF (cM (.int 1)) (varM 4)) (gOne 4)) nilS) <|
    seqS (ifS (tst (opM geF (varM 4) (opM powF (cM (.int 10)) (cM (.int 18))))) (seqS (hsetS (varM 2) (opM modF (varM 3) (callBM lenF (acons (varM 2) anil))) (opM divF (varM 4) (varM 1))) <|
    retS (opM modF (varM 4) (varM 1))) nilS) <|
    seqS (hsetS (varM 0) (cM (.int 1)) (opM addF (varM 3) (cM (.int 1)))) <|
    seqS (hsetS (varM 0) (cM (.int 2)) (opM modF (opM addF (opM addF (opM addF (opM mulF (opM ixF (varM 0) (cM (.int 2))) (cM (.int 48271))) (opM mulF (varM 4) (cM (.int 9973)))) (opM mulF (varM 3) (cM (.int 31)))) (cM (.int 11))) (cM (.int 2147483647)))) <|
    retS (opM modF (opM divF (opM modF (opM mulF (opM ixF (varM 0) (cM (.int 2))) (cM (.int 69621))) (cM (.int 2147483629))) (cM (.int 64))) (varM 1))
def v_law_draw : List T → Hs → Res T := fnV 3 m_law_draw
theorem draw_spec (cells : List Int) (a s m : Int) (rest : Hs) (hm : 0 < m) (hm2 : m < 2 ^ 64) : ∃ i cells' a' s', v_law_draw [.ref 1, .int m] (bg cells a s rest) = .ok (.int i) (bg cells' a' s' rest) ∧ 0 ≤ i ∧ i < m ∧ cells'.length = cells.length := by
  have key : ∀ c : Int, (0 < cells.length ∨ c = 0) → (∃ i cells' a' s', ((seqS (ifS (tst (opM ltF (varM 4) (cM (.int 0)))) (asgS (opM subF (cM (.int 1)) (varM 4)) (gOne 4)) nilS) drawT) [Sl.val (T.ref 1), Sl.val (T.int m), Sl.val (T.ref 0), Sl.val (T.int a), Sl.val (T.int c)] (bg cells a s rest)).val = .ok (.int i) (bg cells' a' s' rest) ∧ 0 ≤ i ∧ i < m ∧ cells'.length = cells.length) := by
    intro c hc
    by_cases h0 : c < 0
    · obtain ⟨i, cells', a', s', e, r⟩ := draw_tail cells a s m (1 - c) rest hm hm2 fun _ => by
        rcases hc with hc | hc
        · exact hc
        · omega
      refine ⟨i, cells', a', s', ?_, r⟩
      rw [← e]
      simp [h0, -ev_seq, ev_seq (s' := drawT)]
    · obtain ⟨i, cells', a', s', e, r⟩ := draw_tail cells a s m c rest hm hm2 fun z => by
        rcases hc with hc | hc
        · exact hc
        · omega
      refine ⟨i, cells', a', s', ?_, r⟩
      rw [← e]
      simp [h0, -ev_seq, ev_seq (s' := drawT)]
  by_cases hn : 0 < cells.length
  · have hn' : (0 : Int) < cells.length := by omega
    have q0 : 0 ≤ a % (cells.length : Int) := Int.emod_nonneg _ (by omega)
    have q1 : a % (cells.length : Int) < cells.length := Int.emod_lt_of_pos _ hn'
    obtain ⟨x, hx, hat, _⟩ := atI_lt (xs := cells.map T.int) (i := a % (cells.length : Int)) q0 (by rw [List.length_map]; exact q1)
    obtain ⟨c, _, rfl⟩ := List.mem_map.mp hx
    obtain ⟨i, cells', a', s', e, r⟩ := key c (.inl hn)
    refine ⟨i, cells', a', s', ?_, r⟩
    rw [← e]
    unfold v_law_draw m_law_draw
    show _ = ((seqS _ drawT) _ _).val
    unfold drawT bg
    simp [hn, hat]
  · obtain ⟨i, cells', a', s', e, r⟩ := key 0 (.inr rfl)
    refine ⟨i, cells', a', s', ?_, r⟩
    rw [← e]
    unfold v_law_draw m_law_draw
    show _ = ((seqS _ drawT) _ _).val
    unfold drawT bg
    simp [hn]


def m_law_plan : SM :=
  seqS (asgS (lstM (acons (tupM (acons (cM (.int 1)) (acons (cM (.int 1)) (acons (cM (.int 2)) anil)))) (acons (tupM (acons (cM (.int 1)) (acons (cM (.int 1)) (acons (cM (.int 4)) anil)))) (acons (tupM (acons (cM (.int 2)) (acons (cM (.int 1)) (acons (cM (.int 2)) anil)))) (acons (tupM (acons (cM (.int 1)) (acons (cM (.int 2)) (acons (cM (.int 2)) anil)))) (acons (tupM (acons (cM (.int 2)) (acons (cM (.int 2)) (acons (cM (.int 2)) anil)))) (acons (tupM (acons (cM (.int 1)) (acons (cM (.int 1)) (acons (cM (.int 4)) anil)))) anil))))))) (gOne 1)) <|
    seqS (asgS (opM addF (varM 1) (lstM (acons (tupM (acons (cM (.int 3)) (acons (cM (.int 1)) (acons (cM (.int 2)) anil)))) (acons (tupM (acons (cM (.int 1)) (acons (cM (.int 3)) (acons (cM (.int 2)) anil)))) (acons (tupM (acons (cM (.int 2)) (acons (cM (.int 1)) (acons (cM (.int 4)) anil)))) (acons (tupM (acons (cM (.int 1)) (acons (cM (.int 2)) (acons (cM (.int 4)) anil)))) (acons (tupM (acons (cM (.int 3)) (acons (cM (.int 2)) (acons (cM (.int 2)) anil)))) (acons (tupM (acons (cM (.int 1)) (acons (cM (.int 1)) (acons (cM (.int 8)) anil)))) anil)))))))) (gOne 1)) <|
    retS (opM ixF (varM 1) (callM 2 [] v_law_draw (acons (varM 0) (acons (cM (.int 12)) anil))))
def v_law_plan : List T → Hs → Res T := fnV 1 m_law_plan
def m_law_bag : SM :=
  retS (allocM (lstM (acons (allocM (callBM listF (acons (sliceM (varM 0) onone (osome (cM (.int 63)))) anil))) (acons (cM (.int 0)) (acons (cM (.int 7)) anil)))))
def v_law_bag : List T → Hs → Res T := fnV 0 m_law_bag
theorem bag_spec (ns : List Int) (hl : ns.length ≤ 63) : v_law_bag [.scr ns] [] = .ok (.ref 1) (bg ns 0 7 []) := by
  have hc : cutT (ns.map T.int) none (some 63) = ns.map T.int := cut_head _ 63 (by rw [List.length_map]; exact hl)
  unfold v_law_bag m_law_bag bg
  simp [hc]
def plans : List (Int × Int × Int) := [(1, 1, 2), (1, 1, 4), (2, 1, 2), (1, 2, 2), (2, 2, 2), (1, 1, 4), (3, 1, 2), (1, 3, 2), (2, 1, 4), (1, 2, 4), (3, 2, 2), (1, 1, 8)]
def planT (p : Int × Int × Int) : T := .tup [.int p.1, .int p.2.1, .int p.2.2]
theorem plan_spec (cells : List Int) (a s : Int) (rest : Hs) : ∃ p cells' a' s', p ∈ plans ∧ v_law_plan [.ref 1] (bg cells a s rest) = .ok (planT p) (bg cells' a' s' rest) ∧ cells'.length = cells.length := by
  obtain ⟨i, cells', a', s', e, h0, h1, hl⟩ := draw_spec cells a s 12 rest (by decide) (by decide)
  obtain ⟨x, hx, hat, _⟩ := atI_lt (xs := plans.map planT) (i := i) h0 h1
  obtain ⟨p, hp, rfl⟩ := List.mem_map.mp hx
  refine ⟨p, cells', a', s', hp, ?_, hl⟩
  unfold plans planT at hat
  unfold v_law_plan m_law_plan
  simp [e]
  simp at hat
  rw [hat]
  rfl
/-- the bag stands, behind it the rest -/
def Bag (rest h : Hs) : Prop := ∃ cells a s, h = bg cells a s rest
theorem draw_b {rest h : Hs} {m : Int} (hb : Bag rest h) (hm : 0 < m) (hm2 : m < 2 ^ 64) : ∃ i h', v_law_draw [.ref 1, .int m] h = .ok (.int i) h' ∧ 0 ≤ i ∧ i < m ∧ Bag rest h' := by
  obtain ⟨c, a, s, rfl⟩ := hb
  obtain ⟨i, c', a', s', e, h0, h1, _⟩ := draw_spec c a s m rest hm hm2
  exact ⟨i, _, e, h0, h1, c', a', s', rfl⟩
theorem plan_b {rest h : Hs} (hb : Bag rest h) : ∃ p h', p ∈ plans ∧ v_law_plan [.ref 1] h = .ok (planT p) h' ∧ Bag rest h' := by
  obtain ⟨c, a, s, rfl⟩ := hb
  obtain ⟨p, c', a', s', hp, e, _⟩ := plan_spec c a s rest
  exact ⟨p, _, hp, e, c', a', s', rfl⟩
end Y
namespace K48
open PySem PySem.Spec PyProof.Rows L2 Y
abbrev Pr : Program := PySem.Challenge.pw_braemantle_k48_limits_and_distances
def top (i : Nat) : Stmt := (PySem.Challenge.pw_braemantle_k48_limits_and_distances).main.body.getD i (.Pass ⟨0, 0, 0, 0⟩)
def cn : Nat → Str
  | 0 => "View"
  | _ => "object"
abbrev tb (K : PySem.W.Frag) : Tb := tbl K cn
def frees : List Str := ["isinstance", "int", "bool", "min", "max", "str", "tuple", "list", "len", "range", "abs", "sum"]
def glos : List Str := ["is_whole", "less", "as_share", "as_box", "touches", "_law_whole", "_law_same", "_law_bag", "_law_draw", "_law_plan", "_law_roots", "_law_middle", "_law_halves", "_law_corners_of", "_law_low", "_law_tolerance", "_law_sight", "_law_limit", "_law_far", "_law_shape", "_law_view", "_law_holds", "law", "View"]
def fa0 : List He.Fa := [.cls "View", .noat "View" "tolerance", .noat "View" "eye", .noat "View" "boxes", .mkr "View", .meth "View" "limit", .meth "View" "far"]
def fa : List He.Fa := fa0 ++ (frees.map He.Fa.free ++ glos.map He.Fa.glo)
abbrev s_is_whole : Stmt := top 5
abbrev N_is_whole : List Str := ["thing"]
abbrev ps_is_whole : List Str := ["thing"]
theorem sc_is_whole : FnScope N_is_whole ps_is_whole (defScope s_is_whole) := ⟨rfl, rfl, rfl, by decide +kernel, rfl, by decide +kernel, by decide +kernel⟩
abbrev d_is_whole : He.DefD := ⟨("is_whole", none), "is_whole", "is_whole", defArgs s_is_whole, defBody s_is_whole, defScope s_is_whole, [], []⟩
abbrev s_less : Stmt := top 7
abbrev N_less : List Str := ["one", "other"]
abbrev ps_less : List Str := ["one", "other"]
theorem sc_less : FnScope N_less ps_less (defScope s_less) := ⟨rfl, rfl, rfl, by decide +kernel, rfl, by decide +kernel, by decide +kernel⟩
abbrev d_less : He.DefD := ⟨("less", none), "less", "less", defArgs s_less, defBody s_less, defScope s_less, [], []⟩
abbrev s_as_share : Stmt := top 9
abbrev N_as_share : List Str := ["tolerance", "kept"]
abbrev ps_as_share : List Str := ["tolerance"]
theorem sc_as_share : FnScope N_as_share ps_as_share (defScope s_as_share) := ⟨rfl, rfl, rfl, by decide +kernel, rfl, by decide +kernel, by decide +kernel⟩
abbrev d_as_share : He.DefD := ⟨("as_share", none), "as_share", "as_share", defArgs s_as_share, defBody s_as_share, defScope s_as_share, [], []⟩
abbrev s_as_box : Stmt := top 10
abbrev N_as_box : List Str := ["box", "sides", "tolerance", "x", "y", "xx", "yy"]
abbrev ps_as_box : List Str := ["box"]
theorem sc_as_box : FnScope N_as_box ps_as_box (defScope s_as_box) := ⟨rfl, rfl, rfl, by decide +kernel, rfl, by decide +kernel, by decide +kernel⟩
abbrev d_as_box : He.DefD := ⟨("as_box", none), "as_box", "as_box", defArgs s_as_box, defBody s_as_box, defScope s_as_box, [], []⟩
abbrev s_touches : Stmt := top 11
abbrev N_touches : List Str := ["box", "shape", "x", "y", "xx", "yy", "tolerance", "wide", "tall"]
abbrev ps_touches : List Str := ["box", "shape"]
theorem sc_touches : FnScope N_touches ps_touches (defScope s_touches) := ⟨rfl, rfl, rfl, by decide +kernel, rfl, by decide +kernel, by decide +kernel⟩
abbrev d_touches : He.DefD := ⟨("touches", none), "touches", "touches", defArgs s_touches, defBody s_touches, defScope s_touches, [], []⟩
abbrev s_View___init__ : Stmt := inClass (top 12) 0
abbrev N_View___init__ : List Str := ["self", "tolerance", "eye", "boxes", "box"]
abbrev ps_View___init__ : List Str := ["self", "tolerance", "eye", "boxes"]
theorem sc_View___init__ : FnScope N_View___init__ ps_View___init__ (defScope s_View___init__) := ⟨rfl, rfl, rfl, by decide +kernel, rfl, by decide +kernel, by decide +kernel⟩
abbrev d_View___init__ : He.DefD := ⟨("View", some "__init__"), "__init__", "View.__init__", defArgs s_View___init__, defBody s_View___init__, defScope s_View___init__, [], [("eye", .non), ("boxes", .adr (kwAt ("View", some "__init__") "boxes"))]⟩
abbrev s_View_limit : Stmt := inClass (top 12) 1
abbrev N_View_limit : List Str := ["self", "shape", "best", "box"]
abbrev ps_View_limit : List Str := ["self", "shape"]
theorem sc_View_limit : FnScope N_View_limit ps_View_limit (defScope s_View_limit) := ⟨rfl, rfl, rfl, by decide +kernel, rfl, by decide +kernel, by decide +kernel⟩
abbrev d_View_limit : He.DefD := ⟨("View", some "limit"), "limit", "View.limit", defArgs s_View_limit, defBody s_View_limit, defScope s_View_limit, [], []⟩
abbrev s_View_far : Stmt := inClass (top 12) 2
abbrev N_View_far : List Str := ["self", "shape", "x", "y", "k"]
abbrev ps_View_far : List Str := ["self", "shape"]
theorem sc_View_far : FnScope N_View_far ps_View_far (defScope s_View_far) := ⟨rfl, rfl, rfl, by decide +kernel, rfl, by decide +kernel, by decide +kernel⟩
abbrev d_View_far : He.DefD := ⟨("View", some "far"), "far", "View.far", defArgs s_View_far, defBody s_View_far, defScope s_View_far, [], []⟩
abbrev s_law_whole : Stmt := top 14
abbrev N_law_whole : List Str := ["_law_found"]
abbrev ps_law_whole : List Str := ["_law_found"]
theorem sc_law_whole : FnScope N_law_whole ps_law_whole (defScope s_law_whole) := ⟨rfl, rfl, rfl, by decide +kernel, rfl, by decide +kernel, by decide +kernel⟩
abbrev d_law_whole : He.DefD := ⟨("_law_whole", none), "_law_whole", "_law_whole", defArgs s_law_whole, defBody s_law_whole, defScope s_law_whole, [], []⟩
abbrev s_law_same : Stmt := top 15
abbrev N_law_same : List Str := ["_law_found", "_law_due", "_law_k"]
abbrev ps_law_same : List Str := ["_law_found", "_law_due"]
theorem sc_law_same : FnScope N_law_same ps_law_same (defScope s_law_same) := ⟨rfl, rfl, rfl, by decide +kernel, rfl, by decide +kernel, by decide +kernel⟩
abbrev d_law_same : He.DefD := ⟨("_law_same", none), "_law_same", "_law_same", defArgs s_law_same, defBody s_law_same, defScope s_law_same, [], []⟩
abbrev s_law_bag : Stmt := top 16
abbrev N_law_bag : List Str := ["_law_script"]
abbrev ps_law_bag : List Str := ["_law_script"]
theorem sc_law_bag : FnScope N_law_bag ps_law_bag (defScope s_law_bag) := ⟨rfl, rfl, rfl, by decide +kernel, rfl, by decide +kernel, by decide +kernel⟩
abbrev d_law_bag : He.DefD := ⟨("_law_bag", none), "_law_bag", "_law_bag", defArgs s_law_bag, defBody s_law_bag, defScope s_law_bag, [], []⟩
abbrev s_law_draw : Stmt := top 17
abbrev N_law_draw : List Str := ["_law_bag_here", "_law_many", "_law_cells", "_law_at", "_law_cell"]
abbrev ps_law_draw : List Str := ["_law_bag_here", "_law_many"]
theorem sc_law_draw : FnScope N_law_draw ps_law_draw (defScope s_law_draw) := ⟨rfl, rfl, rfl, by decide +kernel, rfl, by decide +kernel, by decide +kernel⟩
abbrev d_law_draw : He.DefD := ⟨("_law_draw", none), "_law_draw", "_law_draw", defArgs s_law_draw, defBody s_law_draw, defScope s_law_draw, [], []⟩
abbrev s_law_plan : Stmt := top 18
abbrev N_law_plan : List Str := ["_law_bag_here", "_law_menu"]
abbrev ps_law_plan : List Str := ["_law_bag_here"]
theorem sc_law_plan : FnScope N_law_plan ps_law_plan (defScope s_law_plan) := ⟨rfl, rfl, rfl, by decide +kernel, rfl, by decide +kernel, by decide +kernel⟩
abbrev d_law_plan : He.DefD := ⟨("_law_plan", none), "_law_plan", "_law_plan", defArgs s_law_plan, defBody s_law_plan, defScope s_law_plan, [], []⟩
abbrev s_law_roots : Stmt := top 19
abbrev N_law_roots : List Str := ["_law_plan_here", "_law_found", "_law_side", "_law_i", "_law_j", "_law_x", "_law_y"]
abbrev ps_law_roots : List Str := ["_law_plan_here"]
theorem sc_law_roots : FnScope N_law_roots ps_law_roots (defScope s_law_roots) := ⟨rfl, rfl, rfl, by decide +kernel, rfl, by decide +kernel, by decide +kernel⟩
abbrev d_law_roots : He.DefD := ⟨("_law_roots", none), "_law_roots", "_law_roots", defArgs s_law_roots, defBody s_law_roots, defScope s_law_roots, [], []⟩
abbrev s_law_middle : Stmt := top 20
abbrev N_law_middle : List Str := ["_law_shape_here"]
abbrev ps_law_middle : List Str := ["_law_shape_here"]
theorem sc_law_middle : FnScope N_law_middle ps_law_middle (defScope s_law_middle) := ⟨rfl, rfl, rfl, by decide +kernel, rfl, by decide +kernel, by decide +kernel⟩
abbrev d_law_middle : He.DefD := ⟨("_law_middle", none), "_law_middle", "_law_middle", defArgs s_law_middle, defBody s_law_middle, defScope s_law_middle, [], []⟩
abbrev s_law_halves : Stmt := top 21
abbrev N_law_halves : List Str := ["_law_shape_here", "_law_at", "_law_one", "_law_two"]
abbrev ps_law_halves : List Str := ["_law_shape_here"]
theorem sc_law_halves : FnScope N_law_halves ps_law_halves (defScope s_law_halves) := ⟨rfl, rfl, rfl, by decide +kernel, rfl, by decide +kernel, by decide +kernel⟩
abbrev d_law_halves : He.DefD := ⟨("_law_halves", none), "_law_halves", "_law_halves", defArgs s_law_halves, defBody s_law_halves, defScope s_law_halves, [], []⟩
abbrev s_law_corners_of : Stmt := top 22
abbrev N_law_corners_of : List Str := ["_law_shape_here"]
abbrev ps_law_corners_of : List Str := ["_law_shape_here"]
theorem sc_law_corners_of : FnScope N_law_corners_of ps_law_corners_of (defScope s_law_corners_of) := ⟨rfl, rfl, rfl, by decide +kernel, rfl, by decide +kernel, by decide +kernel⟩
abbrev d_law_corners_of : He.DefD := ⟨("_law_corners_of", none), "_law_corners_of", "_law_corners_of", defArgs s_law_corners_of, defBody s_law_corners_of, defScope s_law_corners_of, [], []⟩
abbrev s_law_low : Stmt := top 23
abbrev N_law_low : List Str := ["_law_gain", "_law_base", "_law_one", "_law_two", "_law_rest"]
abbrev ps_law_low : List Str := ["_law_gain", "_law_base"]
theorem sc_law_low : FnScope N_law_low ps_law_low (defScope s_law_low) := ⟨rfl, rfl, rfl, by decide +kernel, rfl, by decide +kernel, by decide +kernel⟩
abbrev d_law_low : He.DefD := ⟨("_law_low", none), "_law_low", "_law_low", defArgs s_law_low, defBody s_law_low, defScope s_law_low, [], []⟩
abbrev s_law_tolerance : Stmt := top 24
abbrev N_law_tolerance : List Str := ["_law_bag_here", "_law_kind"]
abbrev ps_law_tolerance : List Str := ["_law_bag_here"]
theorem sc_law_tolerance : FnScope N_law_tolerance ps_law_tolerance (defScope s_law_tolerance) := ⟨rfl, rfl, rfl, by decide +kernel, rfl, by decide +kernel, by decide +kernel⟩
abbrev d_law_tolerance : He.DefD := ⟨("_law_tolerance", none), "_law_tolerance", "_law_tolerance", defArgs s_law_tolerance, defBody s_law_tolerance, defScope s_law_tolerance, [], []⟩
abbrev s_law_sight : Stmt := top 25
abbrev N_law_sight : List Str := ["_law_bag_here", "_law_plan_here", "_law_spot", "_law_rooms", "_law_k", "_law_sides"]
abbrev ps_law_sight : List Str := ["_law_bag_here", "_law_plan_here"]
theorem sc_law_sight : FnScope N_law_sight ps_law_sight (defScope s_law_sight) := ⟨rfl, rfl, rfl, by decide +kernel, rfl, by decide +kernel, by decide +kernel⟩
abbrev d_law_sight : He.DefD := ⟨("_law_sight", none), "_law_sight", "_law_sight", defArgs s_law_sight, defBody s_law_sight, defScope s_law_sight, [], []⟩
abbrev s_law_limit : Stmt := top 26
abbrev N_law_limit : List Str := ["_law_sight_here", "_law_shape_here", "_law_best", "_law_box", "_law_wide", "_law_tall"]
abbrev ps_law_limit : List Str := ["_law_sight_here", "_law_shape_here"]
theorem sc_law_limit : FnScope N_law_limit ps_law_limit (defScope s_law_limit) := ⟨rfl, rfl, rfl, by decide +kernel, rfl, by decide +kernel, by decide +kernel⟩
abbrev d_law_limit : He.DefD := ⟨("_law_limit", none), "_law_limit", "_law_limit", defArgs s_law_limit, defBody s_law_limit, defScope s_law_limit, [], []⟩
abbrev s_law_far : Stmt := top 27
abbrev N_law_far : List Str := ["_law_sight_here", "_law_shape_here", "_law_x", "_law_y", "_law_at"]
abbrev ps_law_far : List Str := ["_law_sight_here", "_law_shape_here"]
theorem sc_law_far : FnScope N_law_far ps_law_far (defScope s_law_far) := ⟨rfl, rfl, rfl, by decide +kernel, rfl, by decide +kernel, by decide +kernel⟩
abbrev d_law_far : He.DefD := ⟨("_law_far", none), "_law_far", "_law_far", defArgs s_law_far, defBody s_law_far, defScope s_law_far, [], []⟩
abbrev s_law_shape : Stmt := top 28
abbrev N_law_shape : List Str := ["_law_bag_here", "_law_plan_here", "_law_some", "_law_shape_here", "_law_turn"]
abbrev ps_law_shape : List Str := ["_law_bag_here", "_law_plan_here"]
theorem sc_law_shape : FnScope N_law_shape ps_law_shape (defScope s_law_shape) := ⟨rfl, rfl, rfl, by decide +kernel, rfl, by decide +kernel, by decide +kernel⟩
abbrev d_law_shape : He.DefD := ⟨("_law_shape", none), "_law_shape", "_law_shape", defArgs s_law_shape, defBody s_law_shape, defScope s_law_shape, [], []⟩
abbrev s_law_view : Stmt := top 29
abbrev N_law_view : List Str := ["_law_bag_here", "_law_sight_here", "_law_top", "_law_spot", "_law_rooms"]
abbrev ps_law_view : List Str := ["_law_bag_here", "_law_sight_here"]
theorem sc_law_view : FnScope N_law_view ps_law_view (defScope s_law_view) := ⟨rfl, rfl, rfl, by decide +kernel, rfl, by decide +kernel, by decide +kernel⟩
abbrev d_law_view : He.DefD := ⟨("_law_view", none), "_law_view", "_law_view", defArgs s_law_view, defBody s_law_view, defScope s_law_view, [], []⟩
abbrev s_law_holds : Stmt := top 30
abbrev N_law_holds : List Str := ["_law_view_here", "_law_sight_here", "_law_some", "_law_good", "_law_shape_here"]
abbrev ps_law_holds : List Str := ["_law_view_here", "_law_sight_here", "_law_some"]
theorem sc_law_holds : FnScope N_law_holds ps_law_holds (defScope s_law_holds) := ⟨rfl, rfl, rfl, by decide +kernel, rfl, by decide +kernel, by decide +kernel⟩
abbrev d_law_holds : He.DefD := ⟨("_law_holds", none), "_law_holds", "_law_holds", defArgs s_law_holds, defBody s_law_holds, defScope s_law_holds, [], []⟩
abbrev s_law : Stmt := top 31
abbrev N_law : List Str := ["_law_script", "_law_bag_here", "_law_plan_here", "_law_sight_here", "_law_some", "_law_good", "_law_handed", "_law_view_here", "_law_more", "_law_whole_box", "_law_k"]
abbrev ps_law : List Str := ["_law_script"]
theorem sc_law : FnScope N_law ps_law (defScope s_law) := ⟨rfl, rfl, rfl, by decide +kernel, rfl, by decide +kernel, by decide +kernel⟩
abbrev d_law : He.DefD := ⟨("law", none), "law", "law", defArgs s_law, defBody s_law, defScope s_law, [], []⟩
def fns : List He.DefD := [d_is_whole, d_less, d_as_share, d_as_box, d_touches, d_View___init__, d_View_limit, d_View_far, d_law_whole, d_law_same, d_law_bag, d_law_draw, d_law_plan, d_law_roots, d_law_middle, d_law_halves, d_law_corners_of, d_law_low, d_law_tolerance, d_law_sight, d_law_limit, d_law_far, d_law_shape, d_law_view, d_law_holds, d_law]
def exQ : PySem.W.Frag → Bool := fun K => tup0B K (kwAt ("View", some "__init__") "boxes" K)
structure Facts (K : PySem.W.Frag) (mg : Str → Option Value) : Prop where
  free : ∀ x, x ∈ frees → mg x = none
  glo : ∀ x, x ∈ glos → mg x = some (.ref (He.ga K x))
  fn : ∀ (i : Nat) (d : He.DefD), fns[i]? = some d → ∃ fd, FunD K d.name d.qual d.params d.body d.scope (d.dvs K) (d.kws K) (He.fAd K d.at_) fd
  fact : ∀ (i : Nat) {f : He.Fa}, fa0[i]? = some f → f.ok K = true
  ex : exQ K = true
theorem facts_of {K : PySem.W.Frag} {h : Heap} {mg : Str → Option Value} (X : K.In h) (G : h.Ns mainGlobals mg) (c : He.SaysD fa fns K) (ex : exQ K = true) : Facts K mg := by
  refine ⟨fun x hx => ?_, fun x hx => ?_, fun i d h => c.def_ i h, fun i f h => ?_, ex⟩
  · obtain ⟨j, hj⟩ := List.getElem?_of_mem (show He.Fa.free x ∈ fa from List.mem_append_right _ (List.mem_append_left _ (List.mem_map_of_mem hx)))
    exact He.free_ok X G (c.fact j hj)
  · obtain ⟨j, hj⟩ := List.getElem?_of_mem (show He.Fa.glo x ∈ fa from List.mem_append_right _ (List.mem_append_right _ (List.mem_map_of_mem hx)))
    exact He.glo_ok X G (c.fact j hj)
  · obtain ⟨j, hj⟩ := List.getElem?_of_mem (show f ∈ fa from List.mem_append_left _ (List.mem_of_getElem? h))
    exact c.fact j hj
/-! ### is_whole -/
def m_is_whole : SM :=
  retS (andM (isTM .int (varM 0)) (notM (isTM .bool (varM 0))))
def v_is_whole : List T → Hs → Res T := fnV 0 m_is_whole
theorem w_is_whole {P : Program} {w : World} {K : PySem.W.Frag} {mg : Str → Option Value} {base : Heap} {f : Addr} {cdv : Value} {A : Around} {outer : List Env} {s : Shared} {H : Hp} {E : XK} {ga : List V} {W : WX} {w0 : Wd} {as : List Sl} (Z : Facts K mg) (hr : Room 0 (A.deeper (PyProof.Rows.envOfC "is_whole" (defScope s_is_whole) s.heap.objs.size f cdv)))
    (tk : Takes (cxOf (L2.CX P w) P w K mg base N_is_whole "is_whole" (defScope s_is_whole) f cdv A outer s H E) W) : PSs (cxOf (L2.CX P w) P w K mg base N_is_whole "is_whole" (defScope s_is_whole) f cdv A outer s H E) (defBody s_is_whole) (tS ⟨tb K, ga, W, w0, as⟩ m_is_whole) :=
  b_one (x_ret (s_and (s_isT .int rfl rfl (Z.free "isinstance" (by decide +kernel)) bt_isinstance rfl (Z.free "int" (by decide +kernel)) bt_int (s_b (s_var (pv 0)))) (s_one (s_not (s_isT .bool rfl rfl (Z.free "isinstance" (by decide +kernel)) bt_isinstance rfl (Z.free "bool" (by decide +kernel)) bt_bool (s_b (s_var (pv 0))))))))
theorem F_is_whole {P : Program} {w : World} {K : PySem.W.Frag} {mg : Str → Option Value} {base : Heap} (Z : Facts K mg) : ∃ fd, FunD K (d_is_whole).name (d_is_whole).qual (d_is_whole).params (d_is_whole).body (d_is_whole).scope ((d_is_whole).dvs K) ((d_is_whole).kws K) (He.fAd K (d_is_whole).at_) fd ∧ FnOk P w K mg base (L2.CX P w) 1 (He.fAd K (d_is_whole).at_) fd ps_is_whole (spG (tb K) 1 (fnS 0 m_is_whole)) := by
  obtain ⟨fd, F⟩ := Z.fn 0 d_is_whole rfl
  exact ⟨fd, F, fn_okD F sc_is_whole fun _ _ _ _ _ _ _ _ _ _ hr tk => w_is_whole Z hr tk⟩
theorem D_is_whole {P : Program} {w : World} {K : PySem.W.Frag} {mg : Str → Option Value} {base : Heap} (Z : Facts K mg) : Dn P w K mg base (tb K) "is_whole" 1 [] 1 v_is_whole := by
  obtain ⟨fd, F, hF⟩ := F_is_whole (P := P) (w := w) (base := base) Z
  exact Dn.mk0 hF (Z.glo "is_whole" (by decide +kernel)) F.kp (FunD.bindsN (ps := ps_is_whole) F (fun _ _ _ _ _ _ us hl => match us, hl with | [_], _ => rfl))
/-! ### less -/
def m_less : SM :=
  retS (opM ltF (opM mulF (opM ixF (varM 0) (cM (.int 0))) (opM ixF (varM 1) (cM (.int 1)))) (opM mulF (opM ixF (varM 1) (cM (.int 0))) (opM ixF (varM 0) (cM (.int 1)))))
def v_less : List T → Hs → Res T := fnV 0 m_less
theorem w_less {P : Program} {w : World} {K : PySem.W.Frag} {mg : Str → Option Value} {base : Heap} {f : Addr} {cdv : Value} {A : Around} {outer : List Env} {s : Shared} {H : Hp} {E : XK} {ga : List V} {W : WX} {w0 : Wd} {as : List Sl} (Z : Facts K mg) (hr : Room 0 (A.deeper (PyProof.Rows.envOfC "less" (defScope s_less) s.heap.objs.size f cdv)))
    (tk : Takes (cxOf (L2.CX P w) P w K mg base N_less "less" (defScope s_less) f cdv A outer s H E) W) : PSs (cxOf (L2.CX P w) P w K mg base N_less "less" (defScope s_less) f cdv A outer s H E) (defBody s_less) (tS ⟨tb K, ga, W, w0, as⟩ m_less) :=
  b_one (x_ret (s_cmp os_lt (s_b (s_op os_mul (s_b (s_ix (is_ix rfl) (s_b (s_var (pv 0))) (s_b s_int))) (s_b (s_ix (is_ix rfl) (s_b (s_var (pv 1))) (s_b s_int))))) (s_b (s_op os_mul (s_b (s_ix (is_ix rfl) (s_b (s_var (pv 1))) (s_b s_int))) (s_b (s_ix (is_ix rfl) (s_b (s_var (pv 0))) (s_b s_int)))))))
theorem F_less {P : Program} {w : World} {K : PySem.W.Frag} {mg : Str → Option Value} {base : Heap} (Z : Facts K mg) : ∃ fd, FunD K (d_less).name (d_less).qual (d_less).params (d_less).body (d_less).scope ((d_less).dvs K) ((d_less).kws K) (He.fAd K (d_less).at_) fd ∧ FnOk P w K mg base (L2.CX P w) 1 (He.fAd K (d_less).at_) fd ps_less (spG (tb K) 2 (fnS 0 m_less)) := by
  obtain ⟨fd, F⟩ := Z.fn 1 d_less rfl
  exact ⟨fd, F, fn_okD F sc_less fun _ _ _ _ _ _ _ _ _ _ hr tk => w_less Z hr tk⟩
theorem D_less {P : Program} {w : World} {K : PySem.W.Frag} {mg : Str → Option Value} {base : Heap} (Z : Facts K mg) : Dn P w K mg base (tb K) "less" 2 [] 1 v_less := by
  obtain ⟨fd, F, hF⟩ := F_less (P := P) (w := w) (base := base) Z
  exact Dn.mk0 hF (Z.glo "less" (by decide +kernel)) F.kp (FunD.bindsN (ps := ps_less) F (fun _ _ _ _ _ _ us hl => match us, hl with | [_, _], _ => rfl))
/-! ### as_share -/
def m_as_share : SM :=
  seqS (asgS (ifM (tst (callM 1 [] v_is_whole (acons (varM 0) anil))) (tupM (acons (varM 0) (acons (cM (.int 1)) anil))) (varM 0)) (gOne 1)) <|
    seqS (ifS (tst (opM ltF (opM ixF (varM 1) (cM (.int 0))) (cM (.int 0)))) nevS nilS) <|
    retS (varM 1)
def v_as_share : List T → Hs → Res T := fnV 1 m_as_share
theorem w_as_share {P : Program} {w : World} {K : PySem.W.Frag} {mg : Str → Option Value} {base : Heap} {f : Addr} {cdv : Value} {A : Around} {outer : List Env} {s : Shared} {H : Hp} {E : XK} {ga : List V} {W : WX} {w0 : Wd} {as : List Sl} (Z : Facts K mg) (hr : Room 1 (A.deeper (PyProof.Rows.envOfC "as_share" (defScope s_as_share) s.heap.objs.size f cdv)))
    (tk : Takes (cxOf (L2.CX P w) P w K mg base N_as_share "as_share" (defScope s_as_share) f cdv A outer s H E) W) : PSs (cxOf (L2.CX P w) P w K mg base N_as_share "as_share" (defScope s_as_share) f cdv A outer s H E) (defBody s_as_share) (tS ⟨tb K, ga, W, w0, as⟩ m_as_share) :=
  b_cons (x_set sc_as_share.nd rfl (by first | exact .inl rfl | exact .inr rfl) (s_if (st_val (s_call ((D_is_whole Z).mono (by decide)) hr rfl tk (a_cons (s_var (pv 0)) a_nil))) (s_tup (a_cons (s_var (pv 0)) (a_cons s_int a_nil))) (s_var (pv 0)))) <|
    b_cons (x_if (st_cmp os_lt (s_b (s_ix (is_ix rfl) (s_b (s_var (pv 1))) (s_b s_int))) (s_b s_int)) (b_one x_nev) b_nil) <|
    b_one (x_ret (s_var (pv 1)))
theorem F_as_share {P : Program} {w : World} {K : PySem.W.Frag} {mg : Str → Option Value} {base : Heap} (Z : Facts K mg) : ∃ fd, FunD K (d_as_share).name (d_as_share).qual (d_as_share).params (d_as_share).body (d_as_share).scope ((d_as_share).dvs K) ((d_as_share).kws K) (He.fAd K (d_as_share).at_) fd ∧ FnOk P w K mg base (L2.CX P w) 2 (He.fAd K (d_as_share).at_) fd ps_as_share (spG (tb K) 1 (fnS 1 m_as_share)) := by
  obtain ⟨fd, F⟩ := Z.fn 2 d_as_share rfl
  exact ⟨fd, F, fn_okD F sc_as_share fun _ _ _ _ _ _ _ _ _ _ hr tk => w_as_share Z hr tk⟩
theorem D_as_share {P : Program} {w : World} {K : PySem.W.Frag} {mg : Str → Option Value} {base : Heap} (Z : Facts K mg) : Dn P w K mg base (tb K) "as_share" 1 [] 2 v_as_share := by
  obtain ⟨fd, F, hF⟩ := F_as_share (P := P) (w := w) (base := base) Z
  exact Dn.mk0 hF (Z.glo "as_share" (by decide +kernel)) F.kp (FunD.bindsN (ps := ps_as_share) F (fun _ _ _ _ _ _ us hl => match us, hl with | [_], _ => rfl))
/-! ### as_box -/
def m_as_box : SM :=
  seqS (starS 1 2 (varM 0)) <|
    seqS (asgS (varM 1) (gUnlM [3, 4, 5, 6])) <|
    retS (tupM (acons (callBM minF (acons (varM 3) (acons (varM 5) anil))) (acons (callBM minF (acons (varM 4) (acons (varM 6) anil))) (acons (callBM maxF (acons (varM 3) (acons (varM 5) anil))) (acons (callBM maxF (acons (varM 4) (acons (varM 6) anil))) (acons (callM 1 [] v_as_share (acons (varM 2) anil)) anil))))))
def v_as_box : List T → Hs → Res T := fnV 6 m_as_box
theorem w_as_box {P : Program} {w : World} {K : PySem.W.Frag} {mg : Str → Option Value} {base : Heap} {f : Addr} {cdv : Value} {A : Around} {outer : List Env} {s : Shared} {H : Hp} {E : XK} {ga : List V} {W : WX} {w0 : Wd} {as : List Sl} (Z : Facts K mg) (hr : Room 2 (A.deeper (PyProof.Rows.envOfC "as_box" (defScope s_as_box) s.heap.objs.size f cdv)))
    (tk : Takes (cxOf (L2.CX P w) P w K mg base N_as_box "as_box" (defScope s_as_box) f cdv A outer s H E) W) : PSs (cxOf (L2.CX P w) P w K mg base N_as_box "as_box" (defScope s_as_box) f cdv A outer s H E) (defBody s_as_box) (tS ⟨tb K, ga, W, w0, as⟩ m_as_box) :=
  b_cons (x_star (hg := pg_star (es' := [.Name _ _, .Name _ _]) rfl (pgs_cons (pg_name sc_as_box.nd rfl (by first | exact .inl rfl | exact .inr rfl)) (pgs_cons (pg_name sc_as_box.nd rfl (by first | exact .inl rfl | exact .inr rfl)) pgs_nil))) rfl rfl sc_as_box.nd rfl (by first | exact .inl rfl | exact .inr rfl) rfl (by first | exact .inl rfl | exact .inr rfl) (s_var (pv 0))) <|
    b_cons (x_asg (gt_unl [3, 4, 5, 6] rfl) (s_var (pv 1)) (pg_unl rfl (pgs_cons (pg_name sc_as_box.nd rfl (by first | exact .inl rfl | exact .inr rfl)) (pgs_cons (pg_name sc_as_box.nd rfl (by first | exact .inl rfl | exact .inr rfl)) (pgs_cons (pg_name sc_as_box.nd rfl (by first | exact .inl rfl | exact .inr rfl)) (pgs_cons (pg_name sc_as_box.nd rfl (by first | exact .inl rfl | exact .inr rfl)) (pgs_nil))))))) <|
    b_one (x_ret (s_tup (a_cons (s_callB (cs_min rfl rfl) rfl (Z.free "min" (by decide +kernel)) bt_min (ab_cons (s_b (s_var (pv 3))) (ab_cons (s_b (s_var (pv 5))) ab_nil))) (a_cons (s_callB (cs_min rfl rfl) rfl (Z.free "min" (by decide +kernel)) bt_min (ab_cons (s_b (s_var (pv 4))) (ab_cons (s_b (s_var (pv 6))) ab_nil))) (a_cons (s_callB (cs_max rfl rfl) rfl (Z.free "max" (by decide +kernel)) bt_max (ab_cons (s_b (s_var (pv 3))) (ab_cons (s_b (s_var (pv 5))) ab_nil))) (a_cons (s_callB (cs_max rfl rfl) rfl (Z.free "max" (by decide +kernel)) bt_max (ab_cons (s_b (s_var (pv 4))) (ab_cons (s_b (s_var (pv 6))) ab_nil))) (a_cons (s_call ((D_as_share Z).mono (by decide)) hr rfl tk (a_cons (s_var (pv 2)) a_nil)) a_nil)))))))
theorem F_as_box {P : Program} {w : World} {K : PySem.W.Frag} {mg : Str → Option Value} {base : Heap} (Z : Facts K mg) : ∃ fd, FunD K (d_as_box).name (d_as_box).qual (d_as_box).params (d_as_box).body (d_as_box).scope ((d_as_box).dvs K) ((d_as_box).kws K) (He.fAd K (d_as_box).at_) fd ∧ FnOk P w K mg base (L2.CX P w) 3 (He.fAd K (d_as_box).at_) fd ps_as_box (spG (tb K) 1 (fnS 6 m_as_box)) := by
  obtain ⟨fd, F⟩ := Z.fn 3 d_as_box rfl
  exact ⟨fd, F, fn_okD F sc_as_box fun _ _ _ _ _ _ _ _ _ _ hr tk => w_as_box Z hr tk⟩
theorem D_as_box {P : Program} {w : World} {K : PySem.W.Frag} {mg : Str → Option Value} {base : Heap} (Z : Facts K mg) : Dn P w K mg base (tb K) "as_box" 1 [] 3 v_as_box := by
  obtain ⟨fd, F, hF⟩ := F_as_box (P := P) (w := w) (base := base) Z
  exact Dn.mk0 hF (Z.glo "as_box" (by decide +kernel)) F.kp (FunD.bindsN (ps := ps_as_box) F (fun _ _ _ _ _ _ us hl => match us, hl with | [_], _ => rfl))
/-! ### touches -/
def m_touches : SM :=
  seqS (asgS (varM 0) (gTupM [2, 3, 4, 5, 6])) <|
    seqS (asgS (lstM (acons (opM ixF (varM 1) (cM (.int 0))) (acons (opM ixF (varM 1) (cM (.int 2))) (acons (opM ixF (varM 1) (cM (.int 4))) anil)))) (gOne 7)) <|
    seqS (asgS (lstM (acons (opM ixF (varM 1) (cM (.int 1))) (acons (opM ixF (varM 1) (cM (.int 3))) (acons (opM ixF (varM 1) (cM (.int 5))) anil)))) (gOne 8)) <|
    retS (andM (opM leF (varM 2) (callBM maxF (acons (varM 7) anil))) (andM (opM geF (varM 4) (callBM minF (acons (varM 7) anil))) (andM (opM leF (varM 3) (callBM maxF (acons (varM 8) anil))) (opM geF (varM 5) (callBM minF (acons (varM 8) anil))))))
def v_touches : List T → Hs → Res T := fnV 7 m_touches
theorem w_touches {P : Program} {w : World} {K : PySem.W.Frag} {mg : Str → Option Value} {base : Heap} {f : Addr} {cdv : Value} {A : Around} {outer : List Env} {s : Shared} {H : Hp} {E : XK} {ga : List V} {W : WX} {w0 : Wd} {as : List Sl} (Z : Facts K mg) (hr : Room 0 (A.deeper (PyProof.Rows.envOfC "touches" (defScope s_touches) s.heap.objs.size f cdv)))
    (tk : Takes (cxOf (L2.CX P w) P w K mg base N_touches "touches" (defScope s_touches) f cdv A outer s H E) W) : PSs (cxOf (L2.CX P w) P w K mg base N_touches "touches" (defScope s_touches) f cdv A outer s H E) (defBody s_touches) (tS ⟨tb K, ga, W, w0, as⟩ m_touches) :=
  b_cons (x_asg (gt_tup rfl [2, 3, 4, 5, 6] rfl) (s_var (pv 0)) (pg_tup rfl (pgs_cons (pg_name sc_touches.nd rfl (by first | exact .inl rfl | exact .inr rfl)) (pgs_cons (pg_name sc_touches.nd rfl (by first | exact .inl rfl | exact .inr rfl)) (pgs_cons (pg_name sc_touches.nd rfl (by first | exact .inl rfl | exact .inr rfl)) (pgs_cons (pg_name sc_touches.nd rfl (by first | exact .inl rfl | exact .inr rfl)) (pgs_cons (pg_name sc_touches.nd rfl (by first | exact .inl rfl | exact .inr rfl)) (pgs_nil)))))))) <|
    b_cons (x_set sc_touches.nd rfl (by first | exact .inl rfl | exact .inr rfl) (s_lst (a_cons (s_ix (is_ix rfl) (s_b (s_var (pv 1))) (s_b s_int)) (a_cons (s_ix (is_ix rfl) (s_b (s_var (pv 1))) (s_b s_int)) (a_cons (s_ix (is_ix rfl) (s_b (s_var (pv 1))) (s_b s_int)) a_nil))))) <|
    b_cons (x_set sc_touches.nd rfl (by first | exact .inl rfl | exact .inr rfl) (s_lst (a_cons (s_ix (is_ix rfl) (s_b (s_var (pv 1))) (s_b s_int)) (a_cons (s_ix (is_ix rfl) (s_b (s_var (pv 1))) (s_b s_int)) (a_cons (s_ix (is_ix rfl) (s_b (s_var (pv 1))) (s_b s_int)) a_nil))))) <|
    b_one (x_ret (s_and (s_cmp os_le (s_b (s_var (pv 2))) (s_b (s_callB (cs_max rfl rfl) rfl (Z.free "max" (by decide +kernel)) bt_max (ab_cons (s_b (s_var (pv 7))) ab_nil)))) (s_and (s_cmp os_ge (s_b (s_var (pv 4))) (s_b (s_callB (cs_min rfl rfl) rfl (Z.free "min" (by decide +kernel)) bt_min (ab_cons (s_b (s_var (pv 7))) ab_nil)))) (s_and (s_cmp os_le (s_b (s_var (pv 3))) (s_b (s_callB (cs_max rfl rfl) rfl (Z.free "max" (by decide +kernel)) bt_max (ab_cons (s_b (s_var (pv 8))) ab_nil)))) (s_one (s_cmp os_ge (s_b (s_var (pv 5))) (s_b (s_callB (cs_min rfl rfl) rfl (Z.free "min" (by decide +kernel)) bt_min (ab_cons (s_b (s_var (pv 8))) ab_nil)))))))))
theorem F_touches {P : Program} {w : World} {K : PySem.W.Frag} {mg : Str → Option Value} {base : Heap} (Z : Facts K mg) : ∃ fd, FunD K (d_touches).name (d_touches).qual (d_touches).params (d_touches).body (d_touches).scope ((d_touches).dvs K) ((d_touches).kws K) (He.fAd K (d_touches).at_) fd ∧ FnOk P w K mg base (L2.CX P w) 1 (He.fAd K (d_touches).at_) fd ps_touches (spG (tb K) 2 (fnS 7 m_touches)) := by
  obtain ⟨fd, F⟩ := Z.fn 4 d_touches rfl
  exact ⟨fd, F, fn_okD F sc_touches fun _ _ _ _ _ _ _ _ _ _ hr tk => w_touches Z hr tk⟩
theorem D_touches {P : Program} {w : World} {K : PySem.W.Frag} {mg : Str → Option Value} {base : Heap} (Z : Facts K mg) : Dn P w K mg base (tb K) "touches" 2 [] 1 v_touches := by
  obtain ⟨fd, F, hF⟩ := F_touches (P := P) (w := w) (base := base) Z
  exact Dn.mk0 hF (Z.glo "touches" (by decide +kernel)) F.kp (FunD.bindsN (ps := ps_touches) F (fun _ _ _ _ _ _ us hl => match us, hl with | [_, _], _ => rfl))
/-! ### View.__init__ -/
def m_View___init__ : SM :=
  seqS (fldS 0 0 "tolerance" (callM 1 [] v_as_share (acons (varM 1) anil))) <|
    seqS (fldS 0 0 "eye" (varM 2)) <|
    fldS 0 0 "boxes" (compM (seqSrc (varM 3)) (gOne 4) tyes (callM 1 [] v_as_box (acons (varM 4) anil)) [4])
def v_View___init__ : List T → Hs → Res T := fnV 1 m_View___init__
theorem w_View___init__ {P : Program} {w : World} {K : PySem.W.Frag} {mg : Str → Option Value} {base : Heap} {f : Addr} {cdv : Value} {A : Around} {outer : List Env} {s : Shared} {H : Hp} {E : XK} {ga : List V} {W : WX} {w0 : Wd} {as : List Sl} (Z : Facts K mg) (hr : Room 3 (A.deeper (PyProof.Rows.envOfC "View.__init__" (defScope s_View___init__) s.heap.objs.size f cdv)))
    (tk : Takes (cxOf (L2.CX P w) P w K mg base N_View___init__ "View.__init__" (defScope s_View___init__) f cdv A outer s H E) W) : PSs (cxOf (L2.CX P w) P w K mg base N_View___init__ "View.__init__" (defScope s_View___init__) f cdv A outer s H E) (defBody s_View___init__) (tS ⟨tb K, ga, W, w0, as⟩ m_View___init__) :=
  b_cons (x_fld (c := 0) (He.cls_ok (x := "View") (Z.fact 0 rfl)) (He.noat_ok (x := "View") (Z.fact 1 rfl)) (pv 0) (s_call ((D_as_share Z).mono (by decide)) hr rfl tk (a_cons (s_var (pv 1)) a_nil))) <|
    b_cons (x_fld (c := 0) (He.cls_ok (x := "View") (Z.fact 0 rfl)) (He.noat_ok (x := "View") (Z.fact 2 rfl)) (pv 0) (s_var (pv 2))) <|
    b_one (x_fld (c := 0) (He.cls_ok (x := "View") (Z.fact 0 rfl)) (He.noat_ok (x := "View") (Z.fact 3 rfl)) (pv 0) (s_lc (own := [("box", 4)]) rfl sc_View___init__.nd (i_seq rfl (s_var (pv 3))) (blk_of (N := N_View___init__) (sc := defScope s_View___init__) rfl rfl (by decide +kernel)) (gt_one 4) (fun _ _ _ _ _ => pg_name sc_View___init__.nd rfl (by first | exact .inl rfl | exact .inr rfl)) (fun _ _ _ _ _ => ts_nil) (fun _ _ _ _ _ => s_call ((D_as_box Z).mono (by decide)) hr rfl takes0 (a_cons (s_var (pv 4)) a_nil))))
theorem F_View___init__ {P : Program} {w : World} {K : PySem.W.Frag} {mg : Str → Option Value} {base : Heap} (Z : Facts K mg) : ∃ fd, FunD K (d_View___init__).name (d_View___init__).qual (d_View___init__).params (d_View___init__).body (d_View___init__).scope ((d_View___init__).dvs K) ((d_View___init__).kws K) (He.fAd K (d_View___init__).at_) fd ∧ FnOk P w K mg base (L2.CX P w) 4 (He.fAd K (d_View___init__).at_) fd ps_View___init__ (spG (tb K) 4 (fnS 1 m_View___init__)) := by
  obtain ⟨fd, F⟩ := Z.fn 5 d_View___init__ rfl
  exact ⟨fd, F, fn_okD F sc_View___init__ fun _ _ _ _ _ _ _ _ _ _ hr tk => w_View___init__ Z hr tk⟩
theorem rep_kw {K : PySem.W.Frag} {mg : Str → Option Value} (Z : Facts K mg) (w : Wd) : Rep (tb K) w (.tup []) (.ref (kwAt ("View", some "__init__") "boxes" K)) := by
  unfold Rep
  exact ⟨_, [], rfl, tup0_ok Z.ex _, fun z => absurd rfl z, RepL.nil⟩
theorem rep_non {b : Tb} (w : Wd) : Rep b w .non .non := by
  unfold Rep
  rfl
theorem Kn_View {P : Program} {w : World} {K : PySem.W.Frag} {mg : Str → Option Value} {base : Heap} (Z : Facts K mg) : Kn P w K mg base (tb K) "View" 0 4 [.non, .tup []] 4 (fnS 1 m_View___init__) := by
  obtain ⟨fd, F, hF⟩ := F_View___init__ (P := P) (w := w) (base := base) Z
  obtain ⟨ds, hd, hb⟩ := FunD.binds0 (ps := ps_View___init__) F 2 (by intro z; cases z) rfl fun D doc pm an cdv ct us ks h1 h2 => match us, ks, h1, h2 with | [_, _], [_, _], _, _ => ⟨_, _, _, _, _, _, rfl, rfl, ⟨_, _, _, _, _, _, rfl, rfl, rfl⟩⟩
  exact ⟨_, fd, _, ds, _, hF, Z.glo "View" (by decide +kernel), He.mkr_ok (x := "View") (Z.fact 4 rfl), hb, hd, fun w => RepL.cons (rep_non w) (RepL.one (rep_kw Z w))⟩
theorem Kb_View {P : Program} {w : World} {K : PySem.W.Frag} {mg : Str → Option Value} {base : Heap} (Z : Facts K mg) : KKn P w K mg base (tb K) "View" 0 4 1 ["boxes"] (fun ts us => ts ++ ([.non] ++ us)) 4 (fnS 1 m_View___init__) := by
  obtain ⟨fd, F, hF⟩ := F_View___init__ (P := P) (w := w) (base := base) Z
  obtain ⟨mv, hb⟩ := FunD.kbinds0 (ps := ps_View___init__) F 2 ["boxes"] [("eye", .non)] (fun vs mz zs => vs ++ (mz ++ zs)) (by intro z; cases z) (by intro q hq; rw [List.mem_singleton] at hq; subst hq; exact List.mem_cons_self ..) (fun a b c => a.append (b.append c)) fun D doc pm an cdv ct us mv ws h1 h2 h3 => match us, mv, ws, h1, h2, h3 with | [_, _], [_], [_], _, _, _ => ⟨_, _, _, _, _, _, rfl, rfl, rfl⟩
  refine ⟨_, fd, _, _, _, hF, Z.glo "View" (by decide +kernel), He.mkr_ok (x := "View") (Z.fact 4 rfl), hb, fun y w ts us vs zs r1 r2 _ _ => ⟨_, rfl, r1.app (RepL.cons (rep_non w) r2)⟩⟩
theorem Ke_View {P : Program} {w : World} {K : PySem.W.Frag} {mg : Str → Option Value} {base : Heap} (Z : Facts K mg) : KKn P w K mg base (tb K) "View" 0 4 1 ["eye"] (fun ts us => ts ++ (us ++ [.tup []])) 4 (fnS 1 m_View___init__) := by
  obtain ⟨fd, F, hF⟩ := F_View___init__ (P := P) (w := w) (base := base) Z
  obtain ⟨mv, hb⟩ := FunD.kbinds0 (ps := ps_View___init__) F 2 ["eye"] [("boxes", .ref (kwAt ("View", some "__init__") "boxes" K))] (fun vs mz zs => vs ++ (zs ++ mz)) (by intro z; cases z) (by intro q hq; rw [List.mem_singleton] at hq; subst hq; exact List.mem_cons_of_mem _ (List.mem_cons_self ..)) (fun a b c => a.append (c.append b)) fun D doc pm an cdv ct us mv ws h1 h2 h3 => match us, mv, ws, h1, h2, h3 with | [_, _], [_], [_], _, _, _ => ⟨_, _, _, _, _, _, rfl, rfl, rfl⟩
  refine ⟨_, fd, _, _, _, hF, Z.glo "View" (by decide +kernel), He.mkr_ok (x := "View") (Z.fact 4 rfl), hb, fun y w ts us vs zs r1 r2 _ _ => ⟨_, rfl, r1.app (r2.app (RepL.one (rep_kw Z w)))⟩⟩
theorem Kbe_View {P : Program} {w : World} {K : PySem.W.Frag} {mg : Str → Option Value} {base : Heap} (Z : Facts K mg) : KKn P w K mg base (tb K) "View" 0 4 1 ["boxes", "eye"] (fun ts us => ts ++ us.reverse) 4 (fnS 1 m_View___init__) := by
  obtain ⟨fd, F, hF⟩ := F_View___init__ (P := P) (w := w) (base := base) Z
  obtain ⟨mv, hb⟩ := FunD.kbinds0 (ps := ps_View___init__) F 2 ["boxes", "eye"] [] (fun vs mz zs => vs ++ (mz ++ zs.reverse)) (by intro z; cases z) (by intro q hq; cases hq) (fun a b c => a.append (b.append c.reverse)) fun D doc pm an cdv ct us mv ws h1 h2 h3 => match us, mv, ws, h1, h2, h3 with | [_, _], [], [_, _], _, _, _ => rfl
  refine ⟨_, fd, _, _, _, hF, Z.glo "View" (by decide +kernel), He.mkr_ok (x := "View") (Z.fact 4 rfl), hb, fun y w ts us vs zs r1 r2 _ _ => ⟨_, rfl, r1.app r2.rev⟩⟩
theorem Keb_View {P : Program} {w : World} {K : PySem.W.Frag} {mg : Str → Option Value} {base : Heap} (Z : Facts K mg) : KKn P w K mg base (tb K) "View" 0 4 1 ["eye", "boxes"] (fun ts us => ts ++ us) 4 (fnS 1 m_View___init__) := by
  obtain ⟨fd, F, hF⟩ := F_View___init__ (P := P) (w := w) (base := base) Z
  obtain ⟨mv, hb⟩ := FunD.kbinds0 (ps := ps_View___init__) F 2 ["eye", "boxes"] [] (fun vs mz zs => vs ++ (mz ++ zs)) (by intro z; cases z) (by intro q hq; cases hq) (fun a b c => a.append (b.append c)) fun D doc pm an cdv ct us mv ws h1 h2 h3 => match us, mv, ws, h1, h2, h3 with | [_, _], [], [_, _], _, _, _ => rfl
  refine ⟨_, fd, _, _, _, hF, Z.glo "View" (by decide +kernel), He.mkr_ok (x := "View") (Z.fact 4 rfl), hb, fun y w ts us vs zs r1 r2 _ _ => ⟨_, rfl, r1.app r2⟩⟩
/-! ### View.limit -/
def m_View_limit : SM :=
  seqS (asgS (cM .non) (gOne 2)) <|
    seqS (forS (seqSrc (fldM 0 "boxes" (varM 0))) (gOne 3) (ifS (andT (tst (callM 2 [] v_touches (acons (varM 3) (acons (varM 1) anil)))) (orT (tst (opM isF (varM 2) (cM .non))) (tst (callM 2 [] v_less (acons (opM ixF (varM 3) (cM (.int 4))) (acons (varM 2) anil)))))) (asgS (opM ixF (varM 3) (cM (.int 4))) (gOne 2)) nilS)) <|
    retS (ifM (tst (opM isF (varM 2) (cM .non))) (fldM 0 "tolerance" (varM 0)) (varM 2))
def v_View_limit : List T → Hs → Res T := fnV 2 m_View_limit
theorem w_View_limit {P : Program} {w : World} {K : PySem.W.Frag} {mg : Str → Option Value} {base : Heap} {f : Addr} {cdv : Value} {A : Around} {outer : List Env} {s : Shared} {H : Hp} {E : XK} {ga : List V} {W : WX} {w0 : Wd} {as : List Sl} (Z : Facts K mg) (hr : Room 1 (A.deeper (PyProof.Rows.envOfC "View.limit" (defScope s_View_limit) s.heap.objs.size f cdv)))
    (tk : Takes (cxOf (L2.CX P w) P w K mg base N_View_limit "View.limit" (defScope s_View_limit) f cdv A outer s H E) W) : PSs (cxOf (L2.CX P w) P w K mg base N_View_limit "View.limit" (defScope s_View_limit) f cdv A outer s H E) (defBody s_View_limit) (tS ⟨tb K, ga, W, w0, as⟩ m_View_limit) :=
  b_cons (x_set sc_View_limit.nd rfl (by first | exact .inl rfl | exact .inr rfl) s_non) <|
    b_cons (x_for (passes_of rfl) rfl (gt_one 3) (i_seq rfl (s_fld (c := 0) (He.cls_ok (x := "View") (Z.fact 0 rfl)) (He.noat_ok (x := "View") (Z.fact 3 rfl)) (s_b (s_var (pv 0))))) (pg_name sc_View_limit.nd rfl (by first | exact .inl rfl | exact .inr rfl)) (b_one (x_if (st_bool (st_and (st_val (s_call ((D_touches Z).mono (by decide)) hr rfl tk (a_cons (s_var (pv 3)) (a_cons (s_var (pv 1)) a_nil)))) (st_and1 (st_bool (st_or (st_cmp os_is (s_b (s_var (pv 2))) (s_b s_non)) (st_or1 (st_val (s_call ((D_less Z).mono (by decide)) hr rfl tk (a_cons (s_ix (is_ix rfl) (s_b (s_var (pv 3))) (s_b s_int)) (a_cons (s_var (pv 2)) a_nil)))))))))) (b_one (x_set sc_View_limit.nd rfl (by first | exact .inl rfl | exact .inr rfl) (s_ix (is_ix rfl) (s_b (s_var (pv 3))) (s_b s_int)))) b_nil))) <|
    b_one (x_ret (s_if (st_cmp os_is (s_b (s_var (pv 2))) (s_b s_non)) (s_fld (c := 0) (He.cls_ok (x := "View") (Z.fact 0 rfl)) (He.noat_ok (x := "View") (Z.fact 1 rfl)) (s_b (s_var (pv 0)))) (s_var (pv 2))))
theorem F_View_limit {P : Program} {w : World} {K : PySem.W.Frag} {mg : Str → Option Value} {base : Heap} (Z : Facts K mg) : ∃ fd, FunD K (d_View_limit).name (d_View_limit).qual (d_View_limit).params (d_View_limit).body (d_View_limit).scope ((d_View_limit).dvs K) ((d_View_limit).kws K) (He.fAd K (d_View_limit).at_) fd ∧ FnOk P w K mg base (L2.CX P w) 2 (He.fAd K (d_View_limit).at_) fd ps_View_limit (spG (tb K) 2 (fnS 2 m_View_limit)) := by
  obtain ⟨fd, F⟩ := Z.fn 6 d_View_limit rfl
  exact ⟨fd, F, fn_okD F sc_View_limit fun _ _ _ _ _ _ _ _ _ _ hr tk => w_View_limit Z hr tk⟩
theorem M_View_limit {P : Program} {w : World} {K : PySem.W.Frag} {mg : Str → Option Value} {base : Heap} (Z : Facts K mg) : Mn P w K mg base (tb K) 0 "limit" 2 [] 2 v_View_limit := by
  obtain ⟨fd, F, hF⟩ := F_View_limit (P := P) (w := w) (base := base) Z
  exact Mn.mk0 hF (He.cls_ok (x := "View") (Z.fact 0 rfl)) (He.meth_ok (x := "View") (m := "limit") (Z.fact 5 rfl)) (FunD.bindsN (ps := ps_View_limit) F (fun _ _ _ _ _ _ us hl => match us, hl with | [_, _], _ => rfl))
/-! ### View.far -/
def m_View_far : SM :=
  seqS (ifS (tst (opM isF (fldM 0 "eye" (varM 0)) (cM .non))) (retS (cM (.int 1))) nilS) <|
    seqS (asgS (fldM 0 "eye" (varM 0)) (gTupM [2, 3])) <|
    retS (opM addF (cM (.int 1)) (callBM minF (acons (compM (seqSrc (tupM (acons (cM (.int 0)) (acons (cM (.int 2)) (acons (cM (.int 4)) anil))))) (gOne 4) tyes (opM addF (opM powF (opM subF (opM ixF (varM 1) (varM 4)) (varM 2)) (cM (.int 2))) (opM powF (opM subF (opM ixF (varM 1) (opM addF (varM 4) (cM (.int 1)))) (varM 3)) (cM (.int 2)))) [4]) anil)))
def v_View_far : List T → Hs → Res T := fnV 3 m_View_far
theorem w_View_far {P : Program} {w : World} {K : PySem.W.Frag} {mg : Str → Option Value} {base : Heap} {f : Addr} {cdv : Value} {A : Around} {outer : List Env} {s : Shared} {H : Hp} {E : XK} {ga : List V} {W : WX} {w0 : Wd} {as : List Sl} (Z : Facts K mg) (hr : Room 0 (A.deeper (PyProof.Rows.envOfC "View.far" (defScope s_View_far) s.heap.objs.size f cdv)))
    (tk : Takes (cxOf (L2.CX P w) P w K mg base N_View_far "View.far" (defScope s_View_far) f cdv A outer s H E) W) : PSs (cxOf (L2.CX P w) P w K mg base N_View_far "View.far" (defScope s_View_far) f cdv A outer s H E) (defBody s_View_far) (tS ⟨tb K, ga, W, w0, as⟩ m_View_far) :=
  b_cons (x_if (st_cmp os_is (s_b (s_fld (c := 0) (He.cls_ok (x := "View") (Z.fact 0 rfl)) (He.noat_ok (x := "View") (Z.fact 2 rfl)) (s_b (s_var (pv 0))))) (s_b s_non)) (b_one (x_ret s_int)) b_nil) <|
    b_cons (x_asg (gt_tup rfl [2, 3] rfl) (s_fld (c := 0) (He.cls_ok (x := "View") (Z.fact 0 rfl)) (He.noat_ok (x := "View") (Z.fact 2 rfl)) (s_b (s_var (pv 0)))) (pg_tup rfl (pgs_cons (pg_name sc_View_far.nd rfl (by first | exact .inl rfl | exact .inr rfl)) (pgs_cons (pg_name sc_View_far.nd rfl (by first | exact .inl rfl | exact .inr rfl)) (pgs_nil))))) <|
    b_one (x_ret (s_op os_add (s_b s_int) (s_b (s_callB (cs_min rfl rfl) rfl (Z.free "min" (by decide +kernel)) bt_min (ab_cons (s_b (s_lc (own := [("k", 4)]) rfl sc_View_far.nd (i_seq rfl (s_tup (a_cons s_int (a_cons s_int (a_cons s_int a_nil))))) (blk_of (N := N_View_far) (sc := defScope s_View_far) rfl rfl (by decide +kernel)) (gt_one 4) (fun _ _ _ _ _ => pg_name sc_View_far.nd rfl (by first | exact .inl rfl | exact .inr rfl)) (fun _ _ _ _ _ => ts_nil) (fun _ _ _ _ _ => s_op os_add (s_b (s_op os_pow (s_b (s_op os_sub (s_b (s_ix (is_ix rfl) (s_b (s_var (pv 1))) (s_b (s_var (pv 4))))) (s_b (s_var (pv 2))))) (s_b s_int))) (s_b (s_op os_pow (s_b (s_op os_sub (s_b (s_ix (is_ix rfl) (s_b (s_var (pv 1))) (s_b (s_op os_add (s_b (s_var (pv 4))) (s_b s_int))))) (s_b (s_var (pv 3))))) (s_b s_int)))))) ab_nil)))))
theorem F_View_far {P : Program} {w : World} {K : PySem.W.Frag} {mg : Str → Option Value} {base : Heap} (Z : Facts K mg) : ∃ fd, FunD K (d_View_far).name (d_View_far).qual (d_View_far).params (d_View_far).body (d_View_far).scope ((d_View_far).dvs K) ((d_View_far).kws K) (He.fAd K (d_View_far).at_) fd ∧ FnOk P w K mg base (L2.CX P w) 1 (He.fAd K (d_View_far).at_) fd ps_View_far (spG (tb K) 2 (fnS 3 m_View_far)) := by
  obtain ⟨fd, F⟩ := Z.fn 7 d_View_far rfl
  exact ⟨fd, F, fn_okD F sc_View_far fun _ _ _ _ _ _ _ _ _ _ hr tk => w_View_far Z hr tk⟩
theorem M_View_far {P : Program} {w : World} {K : PySem.W.Frag} {mg : Str → Option Value} {base : Heap} (Z : Facts K mg) : Mn P w K mg base (tb K) 0 "far" 2 [] 1 v_View_far := by
  obtain ⟨fd, F, hF⟩ := F_View_far (P := P) (w := w) (base := base) Z
  exact Mn.mk0 hF (He.cls_ok (x := "View") (Z.fact 0 rfl)) (He.meth_ok (x := "View") (m := "far") (Z.fact 6 rfl)) (FunD.bindsN (ps := ps_View_far) F (fun _ _ _ _ _ _ us hl => match us, hl with | [_, _], _ => rfl))
/-! ### _law_whole -/
def m_law_whole : SM :=
  retS (andM (isTM .int (varM 0)) (notM (isTM .bool (varM 0))))
def v_law_whole : List T → Hs → Res T := fnV 0 m_law_whole
theorem w_law_whole {P : Program} {w : World} {K : PySem.W.Frag} {mg : Str → Option Value} {base : Heap} {f : Addr} {cdv : Value} {A : Around} {outer : List Env} {s : Shared} {H : Hp} {E : XK} {ga : List V} {W : WX} {w0 : Wd} {as : List Sl} (Z : Facts K mg) (hr : Room 0 (A.deeper (PyProof.Rows.envOfC "_law_whole" (defScope s_law_whole) s.heap.objs.size f cdv)))
    (tk : Takes (cxOf (L2.CX P w) P w K mg base N_law_whole "_law_whole" (defScope s_law_whole) f cdv A outer s H E) W) : PSs (cxOf (L2.CX P w) P w K mg base N_law_whole "_law_whole" (defScope s_law_whole) f cdv A outer s H E) (defBody s_law_whole) (tS ⟨tb K, ga, W, w0, as⟩ m_law_whole) :=
  b_one (x_ret (s_and (s_isT .int rfl rfl (Z.free "isinstance" (by decide +kernel)) bt_isinstance rfl (Z.free "int" (by decide +kernel)) bt_int (s_b (s_var (pv 0)))) (s_one (s_not (s_isT .bool rfl rfl (Z.free "isinstance" (by decide +kernel)) bt_isinstance rfl (Z.free "bool" (by decide +kernel)) bt_bool (s_b (s_var (pv 0))))))))
theorem F_law_whole {P : Program} {w : World} {K : PySem.W.Frag} {mg : Str → Option Value} {base : Heap} (Z : Facts K mg) : ∃ fd, FunD K (d_law_whole).name (d_law_whole).qual (d_law_whole).params (d_law_whole).body (d_law_whole).scope ((d_law_whole).dvs K) ((d_law_whole).kws K) (He.fAd K (d_law_whole).at_) fd ∧ FnOk P w K mg base (L2.CX P w) 1 (He.fAd K (d_law_whole).at_) fd ps_law_whole (spG (tb K) 1 (fnS 0 m_law_whole)) := by
  obtain ⟨fd, F⟩ := Z.fn 8 d_law_whole rfl
  exact ⟨fd, F, fn_okD F sc_law_whole fun _ _ _ _ _ _ _ _ _ _ hr tk => w_law_whole Z hr tk⟩
theorem D_law_whole {P : Program} {w : World} {K : PySem.W.Frag} {mg : Str → Option Value} {base : Heap} (Z : Facts K mg) : Dn P w K mg base (tb K) "_law_whole" 1 [] 1 v_law_whole := by
  obtain ⟨fd, F, hF⟩ := F_law_whole (P := P) (w := w) (base := base) Z
  exact Dn.mk0 hF (Z.glo "_law_whole" (by decide +kernel)) F.kp (FunD.bindsN (ps := ps_law_whole) F (fun _ _ _ _ _ _ us hl => match us, hl with | [_], _ => rfl))
/-! ### _law_same -/
def m_law_same (rec : List T → Hs → Res T) : SM :=
  seqS (ifS (tst (opM isF (varM 1) (cM .non))) (retS (opM isF (varM 0) (cM .non))) nilS) <|
    seqS (ifS (tst (isTM .bool (varM 1))) (retS (andM (isTM .bool (varM 0)) (opM eqF (varM 0) (varM 1)))) nilS) <|
    seqS (ifS (tst (isTM .int (varM 1))) (retS (andM (callM 1 [] v_law_whole (acons (varM 0) anil)) (opM eqF (varM 0) (varM 1)))) nilS) <|
    seqS (ifS (tst (isTM .str (varM 1))) (retS (andM (isTM .str (varM 0)) (opM eqF (varM 0) (varM 1)))) nilS) <|
    seqS (ifS (andT (tst (isTM .tuple (varM 1))) (notT (tst (isTM .tuple (varM 0))))) (retS (cM (.bl false))) nilS) <|
    seqS (ifS (andT (tst (isTM .list (varM 1))) (notT (tst (isTM .list (varM 0))))) (retS (cM (.bl false))) nilS) <|
    seqS (ifS (tst (opM neF (callBM lenF (acons (varM 0) anil)) (callBM lenF (acons (varM 1) anil)))) (retS (cM (.bl false))) nilS) <|
    seqS (forS (rng1Src (callBM lenF (acons (varM 1) anil))) (gOne 2) (ifS (notT (tst (callM 2 [] rec (acons (opM ixF (varM 0) (varM 2)) (acons (opM ixF (varM 1) (varM 2)) anil))))) (retS (cM (.bl false))) nilS)) <|
    retS (cM (.bl true))
def v_law_same : Nat → List T → Hs → Res T
  | 0 => fun _ _ => .bad
  | d + 1 => fnV 1 (m_law_same (v_law_same d))
theorem w_law_same {P : Program} {w : World} {K : PySem.W.Frag} {mg : Str → Option Value} {base : Heap} {f : Addr} {cdv : Value} {A : Around} {outer : List Env} {s : Shared} {H : Hp} {E : XK} {ga : List V} {W : WX} {w0 : Wd} {as : List Sl} {k : Nat} {rec : List T → Hs → Res T} (Z : Facts K mg) (hk : 1 ≤ k) (hrec : Dn P w K mg base (tb K) "_law_same" 2 [] k rec) (hr : Room k (A.deeper (PyProof.Rows.envOfC "_law_same" (defScope s_law_same) s.heap.objs.size f cdv)))
    (tk : Takes (cxOf (L2.CX P w) P w K mg base N_law_same "_law_same" (defScope s_law_same) f cdv A outer s H E) W) : PSs (cxOf (L2.CX P w) P w K mg base N_law_same "_law_same" (defScope s_law_same) f cdv A outer s H E) (defBody s_law_same) (tS ⟨tb K, ga, W, w0, as⟩ (m_law_same rec)) :=
  b_cons (x_if (st_cmp os_is (s_b (s_var (pv 1))) (s_b s_non)) (b_one (x_ret (s_cmp os_is (s_b (s_var (pv 0))) (s_b s_non)))) b_nil) <|
    b_cons (x_if (st_val (s_isT .bool rfl rfl (Z.free "isinstance" (by decide +kernel)) bt_isinstance rfl (Z.free "bool" (by decide +kernel)) bt_bool (s_b (s_var (pv 1))))) (b_one (x_ret (s_and (s_isT .bool rfl rfl (Z.free "isinstance" (by decide +kernel)) bt_isinstance rfl (Z.free "bool" (by decide +kernel)) bt_bool (s_b (s_var (pv 0)))) (s_one (s_cmp (os_eq hr rfl) (s_b (s_var (pv 0))) (s_b (s_var (pv 1)))))))) b_nil) <|
    b_cons (x_if (st_val (s_isT .int rfl rfl (Z.free "isinstance" (by decide +kernel)) bt_isinstance rfl (Z.free "int" (by decide +kernel)) bt_int (s_b (s_var (pv 1))))) (b_one (x_ret (s_and (s_call ((D_law_whole Z).mono (Nat.le_trans (by decide) hk)) hr rfl tk (a_cons (s_var (pv 0)) a_nil)) (s_one (s_cmp (os_eq hr rfl) (s_b (s_var (pv 0))) (s_b (s_var (pv 1)))))))) b_nil) <|
    b_cons (x_if (st_val (s_isT .str rfl rfl (Z.free "isinstance" (by decide +kernel)) bt_isinstance rfl (Z.free "str" (by decide +kernel)) bt_str (s_b (s_var (pv 1))))) (b_one (x_ret (s_and (s_isT .str rfl rfl (Z.free "isinstance" (by decide +kernel)) bt_isinstance rfl (Z.free "str" (by decide +kernel)) bt_str (s_b (s_var (pv 0)))) (s_one (s_cmp (os_eq hr rfl) (s_b (s_var (pv 0))) (s_b (s_var (pv 1)))))))) b_nil) <|
    b_cons (x_if (st_bool (st_and (st_val (s_isT .tuple rfl rfl (Z.free "isinstance" (by decide +kernel)) bt_isinstance rfl (Z.free "tuple" (by decide +kernel)) bt_tuple (s_b (s_var (pv 1))))) (st_and1 (st_not (st_val (s_isT .tuple rfl rfl (Z.free "isinstance" (by decide +kernel)) bt_isinstance rfl (Z.free "tuple" (by decide +kernel)) bt_tuple (s_b (s_var (pv 0))))))))) (b_one (x_ret s_bl)) b_nil) <|
    b_cons (x_if (st_bool (st_and (st_val (s_isT .list rfl rfl (Z.free "isinstance" (by decide +kernel)) bt_isinstance rfl (Z.free "list" (by decide +kernel)) bt_list (s_b (s_var (pv 1))))) (st_and1 (st_not (st_val (s_isT .list rfl rfl (Z.free "isinstance" (by decide +kernel)) bt_isinstance rfl (Z.free "list" (by decide +kernel)) bt_list (s_b (s_var (pv 0))))))))) (b_one (x_ret s_bl)) b_nil) <|
    b_cons (x_if (st_cmp (os_ne hr rfl) (s_b (s_callB (cs_len rfl) rfl (Z.free "len" (by decide +kernel)) bt_len (ab_cons (s_b (s_var (pv 0))) ab_nil))) (s_b (s_callB (cs_len rfl) rfl (Z.free "len" (by decide +kernel)) bt_len (ab_cons (s_b (s_var (pv 1))) ab_nil)))) (b_one (x_ret s_bl)) b_nil) <|
    b_cons (x_for (passes_of rfl) rfl (gt_one 2) (i_rng1 rfl (Z.free "range" (by decide +kernel)) (s_b (s_callB (cs_len rfl) rfl (Z.free "len" (by decide +kernel)) bt_len (ab_cons (s_b (s_var (pv 1))) ab_nil)))) (pg_name sc_law_same.nd rfl (by first | exact .inl rfl | exact .inr rfl)) (b_one (x_if (st_not (st_val (s_call hrec hr rfl tk (a_cons (s_ix (is_ix rfl) (s_b (s_var (pv 0))) (s_b (s_var (pv 2)))) (a_cons (s_ix (is_ix rfl) (s_b (s_var (pv 1))) (s_b (s_var (pv 2)))) a_nil))))) (b_one (x_ret s_bl)) b_nil))) <|
    b_one (x_ret s_bl)
theorem D_law_same {P : Program} {w : World} {K : PySem.W.Frag} {mg : Str → Option Value} {base : Heap} (Z : Facts K mg) : ∀ d, Dn P w K mg base (tb K) "_law_same" 2 [] (1 + d) (v_law_same d)
  | 0 => by
    obtain ⟨fd, F⟩ := Z.fn 9 d_law_same rfl
    exact ⟨_, fd, _, [], [], fn_bad, Z.glo "_law_same" (by decide +kernel), F.kp, FunD.bindsN (ps := ps_law_same) F (fun _ _ _ _ _ _ us hl => match us, hl with | [_, _], _ => rfl), .nil, fun _ => RepL.nil⟩
  | d + 1 => by
    obtain ⟨fd, F⟩ := Z.fn 9 d_law_same rfl
    have hF : FnOk P w K mg base (L2.CX P w) (1 + d + 1) _ fd ps_law_same (spG (tb K) 2 (fnS 1 (m_law_same (v_law_same d)))) := fn_okD F sc_law_same fun _ _ _ _ _ _ _ _ _ _ hr tk => w_law_same Z (Nat.le_add_right _ _) (D_law_same Z d) hr tk
    exact Dn.mk0 hF (Z.glo "_law_same" (by decide +kernel)) F.kp (FunD.bindsN (ps := ps_law_same) F (fun _ _ _ _ _ _ us hl => match us, hl with | [_, _], _ => rfl))
/-! ### _law_bag -/
def m_law_bag : SM :=
  retS (allocM (lstM (acons (allocM (callBM listF (acons (sliceM (varM 0) onone (osome (cM (.int 63)))) anil))) (acons (cM (.int 0)) (acons (cM (.int 7)) anil)))))
def v_law_bag : List T → Hs → Res T := fnV 0 m_law_bag
theorem w_law_bag {P : Program} {w : World} {K : PySem.W.Frag} {mg : Str → Option Value} {base : Heap} {f : Addr} {cdv : Value} {A : Around} {outer : List Env} {s : Shared} {H : Hp} {E : XK} {ga : List V} {W : WX} {w0 : Wd} {as : List Sl} (Z : Facts K mg) (hr : Room 0 (A.deeper (PyProof.Rows.envOfC "_law_bag" (defScope s_law_bag) s.heap.objs.size f cdv)))
    (tk : Takes (cxOf (L2.CX P w) P w K mg base N_law_bag "_law_bag" (defScope s_law_bag) f cdv A outer s H E) W) : PSs (cxOf (L2.CX P w) P w K mg base N_law_bag "_law_bag" (defScope s_law_bag) f cdv A outer s H E) (defBody s_law_bag) (tS ⟨tb K, ga, W, w0, as⟩ m_law_bag) :=
  b_one (x_ret (s_alloc (f_lst (a_cons (s_alloc (f_list rfl rfl (Z.free "list" (by decide +kernel)) bt_list (s_b (s_slice rfl (s_b (s_var (pv 0))) o_none (o_some (s_b s_int)))))) (a_cons s_int (a_cons s_int a_nil))))))
theorem F_law_bag {P : Program} {w : World} {K : PySem.W.Frag} {mg : Str → Option Value} {base : Heap} (Z : Facts K mg) : ∃ fd, FunD K (d_law_bag).name (d_law_bag).qual (d_law_bag).params (d_law_bag).body (d_law_bag).scope ((d_law_bag).dvs K) ((d_law_bag).kws K) (He.fAd K (d_law_bag).at_) fd ∧ FnOk P w K mg base (L2.CX P w) 1 (He.fAd K (d_law_bag).at_) fd ps_law_bag (spG (tb K) 1 (fnS 0 m_law_bag)) := by
  obtain ⟨fd, F⟩ := Z.fn 10 d_law_bag rfl
  exact ⟨fd, F, fn_okD F sc_law_bag fun _ _ _ _ _ _ _ _ _ _ hr tk => w_law_bag Z hr tk⟩
theorem D_law_bag {P : Program} {w : World} {K : PySem.W.Frag} {mg : Str → Option Value} {base : Heap} (Z : Facts K mg) : Dn P w K mg base (tb K) "_law_bag" 1 [] 1 v_law_bag := by
  obtain ⟨fd, F, hF⟩ := F_law_bag (P := P) (w := w) (base := base) Z
  exact Dn.mk0 hF (Z.glo "_law_bag" (by decide +kernel)) F.kp (FunD.bindsN (ps := ps_law_bag) F (fun _ _ _ _ _ _ us hl => match us, hl with | [_], _ => rfl))
/-! ### _law_draw -/
def m_law_draw : SM :=
  seqS (asgS (opM ixF (varM 0) (cM (.int 0))) (gOne 2)) <|
    seqS (asgS (opM ixF (varM 0) (cM (.int 1))) (gOne 3)) <|
    seqS (asgS (cM (.int 0)) (gOne 4)) <|
    seqS (ifS (tst (opM gtF (callBM lenF (acons (varM 2) anil)) (cM (.int 0)))) (asgS (opM ixF (varM 2) (opM modF (varM 3) (callBM lenF (acons (varM 2) anil)))) (gOne 4)) nilS) <|
    seqS (ifS (tst (opM ltF (varM 4) (cM (.int 0)))) (asgS (opM subF (cM (.int 1)) (varM 4)) (gOne 4)) nilS) <|
    seqS (ifS (tst (opM geF (varM 4) (opM powF (cM (.int 10)) (cM (.int 18))))) (seqS (hsetS (varM 2) (opM modF (varM 3) (callBM lenF (acons (varM 2) anil))) (opM divF (varM 4) (varM 1))) <|
    retS (opM modF (varM 4) (varM 1))) nilS) <|
    seqS (hsetS (varM 0) (cM (.int 1)) (opM addF (varM 3) (cM (.int 1)))) <|
    seqS (hsetS (varM 0) (cM (.int 2)) (opM modF (opM addF (opM addF (opM addF (opM mulF (opM ixF (varM 0) (cM (.int 2))) (cM (.int 48271))) (opM mulF (varM 4) (cM (.int 9973)))) (opM mulF (varM 3) (cM (.int 31)))) (cM (.int 11))) (cM (.int 2147483647)))) <|
    retS (opM modF (opM divF (opM modF (opM mulF (opM ixF (varM 0) (cM (.int 2))) (cM (.int 69621))) (cM (.int 2147483629))) (cM (.int 64))) (varM 1))
def v_law_draw : List T → Hs → Res T := fnV 3 m_law_draw
theorem w_law_draw {P : Program} {w : World} {K : PySem.W.Frag} {mg : Str → Option Value} {base : Heap} {f : Addr} {cdv : Value} {A : Around} {outer : List Env} {s : Shared} {H : Hp} {E : XK} {ga : List V} {W : WX} {w0 : Wd} {as : List Sl} (Z : Facts K mg) (hr : Room 0 (A.deeper (PyProof.Rows.envOfC "_law_draw" (defScope s_law_draw) s.heap.objs.size f cdv)))
    (tk : Takes (cxOf (L2.CX P w) P w K mg base N_law_draw "_law_draw" (defScope s_law_draw) f cdv A outer s H E) W) : PSs (cxOf (L2.CX P w) P w K mg base N_law_draw "_law_draw" (defScope s_law_draw) f cdv A outer s H E) (defBody s_law_draw) (tS ⟨tb K, ga, W, w0, as⟩ m_law_draw) :=
  b_cons (x_set sc_law_draw.nd rfl (by first | exact .inl rfl | exact .inr rfl) (s_ix (is_ix rfl) (s_b (s_var (pv 0))) (s_b s_int))) <|
    b_cons (x_set sc_law_draw.nd rfl (by first | exact .inl rfl | exact .inr rfl) (s_ix (is_ix rfl) (s_b (s_var (pv 0))) (s_b s_int))) <|
    b_cons (x_set sc_law_draw.nd rfl (by first | exact .inl rfl | exact .inr rfl) s_int) <|
    b_cons (x_if (st_cmp os_gt (s_b (s_callB (cs_len rfl) rfl (Z.free "len" (by decide +kernel)) bt_len (ab_cons (s_b (s_var (pv 2))) ab_nil))) (s_b s_int)) (b_one (x_set sc_law_draw.nd rfl (by first | exact .inl rfl | exact .inr rfl) (s_ix (is_ix rfl) (s_b (s_var (pv 2))) (s_b (s_op os_mod (s_b (s_var (pv 3))) (s_b (s_callB (cs_len rfl) rfl (Z.free "len" (by decide +kernel)) bt_len (ab_cons (s_b (s_var (pv 2))) ab_nil)))))))) b_nil) <|
    b_cons (x_if (st_cmp os_lt (s_b (s_var (pv 4))) (s_b s_int)) (b_one (x_set sc_law_draw.nd rfl (by first | exact .inl rfl | exact .inr rfl) (s_op os_sub (s_b s_int) (s_b (s_var (pv 4)))))) b_nil) <|
    b_cons (x_if (st_cmp os_ge (s_b (s_var (pv 4))) (s_b (s_op os_pow (s_b s_int) (s_b s_int)))) (b_cons (x_hset (hsub := pg_sub (s_var (pv 2)) (s_op os_mod (s_b (s_var (pv 3))) (s_b (s_callB (cs_len rfl) rfl (Z.free "len" (by decide +kernel)) bt_len (ab_cons (s_b (s_var (pv 2))) ab_nil)))) set_list) (s_op os_div (s_b (s_var (pv 4))) (s_b (s_var (pv 1)))) (s_var (pv 2)) (s_op os_mod (s_b (s_var (pv 3))) (s_b (s_callB (cs_len rfl) rfl (Z.free "len" (by decide +kernel)) bt_len (ab_cons (s_b (s_var (pv 2))) ab_nil))))) <|
    b_one (x_ret (s_op os_mod (s_b (s_var (pv 4))) (s_b (s_var (pv 1)))))) b_nil) <|
    b_cons (x_hset (hsub := pg_sub (s_var (pv 0)) s_int set_list) (s_op os_add (s_b (s_var (pv 3))) (s_b s_int)) (s_var (pv 0)) s_int) <|
    b_cons (x_hset (hsub := pg_sub (s_var (pv 0)) s_int set_list) (s_op os_mod (s_b (s_op os_add (s_b (s_op os_add (s_b (s_op os_add (s_b (s_op os_mul (s_b (s_ix (is_ix rfl) (s_b (s_var (pv 0))) (s_b s_int))) (s_b s_int))) (s_b (s_op os_mul (s_b (s_var (pv 4))) (s_b s_int))))) (s_b (s_op os_mul (s_b (s_var (pv 3))) (s_b s_int))))) (s_b s_int))) (s_b s_int)) (s_var (pv 0)) s_int) <|
    b_one (x_ret (s_op os_mod (s_b (s_op os_div (s_b (s_op os_mod (s_b (s_op os_mul (s_b (s_ix (is_ix rfl) (s_b (s_var (pv 0))) (s_b s_int))) (s_b s_int))) (s_b s_int))) (s_b s_int))) (s_b (s_var (pv 1)))))
theorem F_law_draw {P : Program} {w : World} {K : PySem.W.Frag} {mg : Str → Option Value} {base : Heap} (Z : Facts K mg) : ∃ fd, FunD K (d_law_draw).name (d_law_draw).qual (d_law_draw).params (d_law_draw).body (d_law_draw).scope ((d_law_draw).dvs K) ((d_law_draw).kws K) (He.fAd K (d_law_draw).at_) fd ∧ FnOk P w K mg base (L2.CX P w) 1 (He.fAd K (d_law_draw).at_) fd ps_law_draw (spG (tb K) 2 (fnS 3 m_law_draw)) := by
  obtain ⟨fd, F⟩ := Z.fn 11 d_law_draw rfl
  exact ⟨fd, F, fn_okD F sc_law_draw fun _ _ _ _ _ _ _ _ _ _ hr tk => w_law_draw Z hr tk⟩
theorem D_law_draw {P : Program} {w : World} {K : PySem.W.Frag} {mg : Str → Option Value} {base : Heap} (Z : Facts K mg) : Dn P w K mg base (tb K) "_law_draw" 2 [] 1 v_law_draw := by
  obtain ⟨fd, F, hF⟩ := F_law_draw (P := P) (w := w) (base := base) Z
  exact Dn.mk0 hF (Z.glo "_law_draw" (by decide +kernel)) F.kp (FunD.bindsN (ps := ps_law_draw) F (fun _ _ _ _ _ _ us hl => match us, hl with | [_, _], _ => rfl))
/-! ### _law_plan -/
def m_law_plan : SM :=
  seqS (asgS (lstM (acons (tupM (acons (cM (.int 1)) (acons (cM (.int 1)) (acons (cM (.int 2)) anil)))) (acons (tupM (acons (cM (.int 1)) (acons (cM (.int 1)) (acons (cM (.int 4)) anil)))) (acons (tupM (acons (cM (.int 2)) (acons (cM (.int 1)) (acons (cM (.int 2)) anil)))) (acons (tupM (acons (cM (.int 1)) (acons (cM (.int 2)) (acons (cM (.int 2)) anil)))) (acons (tupM (acons (cM (.int 2)) (acons (cM (.int 2)) (acons (cM (.int 2)) anil)))) (acons (tupM (acons (cM (.int 1)) (acons (cM (.int 1)) (acons (cM (.int 4)) anil)))) anil))))))) (gOne 1)) <|
    seqS (asgS (opM addF (varM 1) (lstM (acons (tupM (acons (cM (.int 3)) (acons (cM (.int 1)) (acons (cM (.int 2)) anil)))) (acons (tupM (acons (cM (.int 1)) (acons (cM (.int 3)) (acons (cM (.int 2)) anil)))) (acons (tupM (acons (cM (.int 2)) (acons (cM (.int 1)) (acons (cM (.int 4)) anil)))) (acons (tupM (acons (cM (.int 1)) (acons (cM (.int 2)) (acons (cM (.int 4)) anil)))) (acons (tupM (acons (cM (.int 3)) (acons (cM (.int 2)) (acons (cM (.int 2)) anil)))) (acons (tupM (acons (cM (.int 1)) (acons (cM (.int 1)) (acons (cM (.int 8)) anil)))) anil)))))))) (gOne 1)) <|
    retS (opM ixF (varM 1) (callM 2 [] v_law_draw (acons (varM 0) (acons (cM (.int 12)) anil))))
def v_law_plan : List T → Hs → Res T := fnV 1 m_law_plan
theorem w_law_plan {P : Program} {w : World} {K : PySem.W.Frag} {mg : Str → Option Value} {base : Heap} {f : Addr} {cdv : Value} {A : Around} {outer : List Env} {s : Shared} {H : Hp} {E : XK} {ga : List V} {W : WX} {w0 : Wd} {as : List Sl} (Z : Facts K mg) (hr : Room 1 (A.deeper (PyProof.Rows.envOfC "_law_plan" (defScope s_law_plan) s.heap.objs.size f cdv)))
    (tk : Takes (cxOf (L2.CX P w) P w K mg base N_law_plan "_law_plan" (defScope s_law_plan) f cdv A outer s H E) W) : PSs (cxOf (L2.CX P w) P w K mg base N_law_plan "_law_plan" (defScope s_law_plan) f cdv A outer s H E) (defBody s_law_plan) (tS ⟨tb K, ga, W, w0, as⟩ m_law_plan) :=
  b_cons (x_set sc_law_plan.nd rfl (by first | exact .inl rfl | exact .inr rfl) (s_lst (a_cons (s_tup (a_cons s_int (a_cons s_int (a_cons s_int a_nil)))) (a_cons (s_tup (a_cons s_int (a_cons s_int (a_cons s_int a_nil)))) (a_cons (s_tup (a_cons s_int (a_cons s_int (a_cons s_int a_nil)))) (a_cons (s_tup (a_cons s_int (a_cons s_int (a_cons s_int a_nil)))) (a_cons (s_tup (a_cons s_int (a_cons s_int (a_cons s_int a_nil)))) (a_cons (s_tup (a_cons s_int (a_cons s_int (a_cons s_int a_nil)))) a_nil)))))))) <|
    b_cons (x_set sc_law_plan.nd rfl (by first | exact .inl rfl | exact .inr rfl) (s_op os_add (s_b (s_var (pv 1))) (s_b (s_lst (a_cons (s_tup (a_cons s_int (a_cons s_int (a_cons s_int a_nil)))) (a_cons (s_tup (a_cons s_int (a_cons s_int (a_cons s_int a_nil)))) (a_cons (s_tup (a_cons s_int (a_cons s_int (a_cons s_int a_nil)))) (a_cons (s_tup (a_cons s_int (a_cons s_int (a_cons s_int a_nil)))) (a_cons (s_tup (a_cons s_int (a_cons s_int (a_cons s_int a_nil)))) (a_cons (s_tup (a_cons s_int (a_cons s_int (a_cons s_int a_nil)))) a_nil)))))))))) <|
    b_one (x_ret (s_ix (is_ix rfl) (s_b (s_var (pv 1))) (s_b (s_call ((D_law_draw Z).mono (by decide)) hr rfl tk (a_cons (s_var (pv 0)) (a_cons s_int a_nil))))))
theorem F_law_plan {P : Program} {w : World} {K : PySem.W.Frag} {mg : Str → Option Value} {base : Heap} (Z : Facts K mg) : ∃ fd, FunD K (d_law_plan).name (d_law_plan).qual (d_law_plan).params (d_law_plan).body (d_law_plan).scope ((d_law_plan).dvs K) ((d_law_plan).kws K) (He.fAd K (d_law_plan).at_) fd ∧ FnOk P w K mg base (L2.CX P w) 2 (He.fAd K (d_law_plan).at_) fd ps_law_plan (spG (tb K) 1 (fnS 1 m_law_plan)) := by
  obtain ⟨fd, F⟩ := Z.fn 12 d_law_plan rfl
  exact ⟨fd, F, fn_okD F sc_law_plan fun _ _ _ _ _ _ _ _ _ _ hr tk => w_law_plan Z hr tk⟩
theorem D_law_plan {P : Program} {w : World} {K : PySem.W.Frag} {mg : Str → Option Value} {base : Heap} (Z : Facts K mg) : Dn P w K mg base (tb K) "_law_plan" 1 [] 2 v_law_plan := by
  obtain ⟨fd, F, hF⟩ := F_law_plan (P := P) (w := w) (base := base) Z
  exact Dn.mk0 hF (Z.glo "_law_plan" (by decide +kernel)) F.kp (FunD.bindsN (ps := ps_law_plan) F (fun _ _ _ _ _ _ us hl => match us, hl with | [_], _ => rfl))
/-! ### _law_roots -/
def m_law_roots : SM :=
  seqS (newS 1 (lstM anil)) <|
    seqS (asgS (opM ixF (varM 0) (cM (.int 2))) (gOne 2)) <|
    seqS (forS (rng1Src (opM ixF (varM 0) (cM (.int 0)))) (gOne 3) (forS (rng1Src (opM ixF (varM 0) (cM (.int 1)))) (gOne 4) (seqS (asgS (opM mulF (varM 3) (varM 2)) (gOne 5)) <|
    seqS (asgS (opM mulF (varM 4) (varM 2)) (gOne 6)) <|
    ifS (tst (opM eqF (opM modF (opM addF (varM 3) (varM 4)) (cM (.int 2))) (cM (.int 0)))) (seqS (appC 1 (tupM (acons (varM 5) (acons (varM 6) (acons (opM addF (varM 5) (varM 2)) (acons (opM addF (varM 6) (varM 2)) (acons (opM addF (varM 5) (varM 2)) (acons (varM 6) anil)))))))) <|
    appC 1 (tupM (acons (opM addF (varM 5) (varM 2)) (acons (opM addF (varM 6) (varM 2)) (acons (varM 5) (acons (varM 6) (acons (varM 5) (acons (opM addF (varM 6) (varM 2)) anil)))))))) (seqS (appC 1 (tupM (acons (opM addF (varM 5) (varM 2)) (acons (varM 6) (acons (varM 5) (acons (opM addF (varM 6) (varM 2)) (acons (opM addF (varM 5) (varM 2)) (acons (opM addF (varM 6) (varM 2)) anil)))))))) <|
    appC 1 (tupM (acons (varM 5) (acons (opM addF (varM 6) (varM 2)) (acons (opM addF (varM 5) (varM 2)) (acons (varM 6) (acons (varM 5) (acons (varM 6) anil))))))))))) <|
    frzS 1 (retS (varM 1))
def v_law_roots : List T → Hs → Res T := fnV 6 m_law_roots
theorem w_law_roots {P : Program} {w : World} {K : PySem.W.Frag} {mg : Str → Option Value} {base : Heap} {f : Addr} {cdv : Value} {A : Around} {outer : List Env} {s : Shared} {H : Hp} {E : XK} {ga : List V} {W : WX} {w0 : Wd} {as : List Sl} (Z : Facts K mg) (hr : Room 0 (A.deeper (PyProof.Rows.envOfC "_law_roots" (defScope s_law_roots) s.heap.objs.size f cdv)))
    (tk : Takes (cxOf (L2.CX P w) P w K mg base N_law_roots "_law_roots" (defScope s_law_roots) f cdv A outer s H E) W) : PSs (cxOf (L2.CX P w) P w K mg base N_law_roots "_law_roots" (defScope s_law_roots) f cdv A outer s H E) (defBody s_law_roots) (tS ⟨tb K, ga, W, w0, as⟩ m_law_roots) :=
  b_cons (x_new sc_law_roots.nd rfl (by first | exact .inl rfl | exact .inr rfl) (f_lst a_nil)) <|
    b_cons (x_set sc_law_roots.nd rfl (by first | exact .inl rfl | exact .inr rfl) (s_ix (is_ix rfl) (s_b (s_var (pv 0))) (s_b s_int))) <|
    b_cons (x_for (passes_of rfl) rfl (gt_one 3) (i_rng1 rfl (Z.free "range" (by decide +kernel)) (s_b (s_ix (is_ix rfl) (s_b (s_var (pv 0))) (s_b s_int)))) (pg_name sc_law_roots.nd rfl (by first | exact .inl rfl | exact .inr rfl)) (b_one (x_for (passes_of rfl) rfl (gt_one 4) (i_rng1 rfl (Z.free "range" (by decide +kernel)) (s_b (s_ix (is_ix rfl) (s_b (s_var (pv 0))) (s_b s_int)))) (pg_name sc_law_roots.nd rfl (by first | exact .inl rfl | exact .inr rfl)) (b_cons (x_set sc_law_roots.nd rfl (by first | exact .inl rfl | exact .inr rfl) (s_op os_mul (s_b (s_var (pv 3))) (s_b (s_var (pv 2))))) <|
    b_cons (x_set sc_law_roots.nd rfl (by first | exact .inl rfl | exact .inr rfl) (s_op os_mul (s_b (s_var (pv 4))) (s_b (s_var (pv 2))))) <|
    b_one (x_if (st_cmp (os_eq hr rfl) (s_b (s_op os_mod (s_b (s_op os_add (s_b (s_var (pv 3))) (s_b (s_var (pv 4))))) (s_b s_int))) (s_b s_int)) (b_cons (x_appC (hpe := fun hm h => pe_bm PySem.F.plainAttrs_list PySem.F.slot_list_append PySem.F.type_list_append hm (pv 1) h) (pv 1) (s_tup (a_cons (s_var (pv 5)) (a_cons (s_var (pv 6)) (a_cons (s_op os_add (s_b (s_var (pv 5))) (s_b (s_var (pv 2)))) (a_cons (s_op os_add (s_b (s_var (pv 6))) (s_b (s_var (pv 2)))) (a_cons (s_op os_add (s_b (s_var (pv 5))) (s_b (s_var (pv 2)))) (a_cons (s_var (pv 6)) a_nil)))))))) <|
    b_one (x_appC (hpe := fun hm h => pe_bm PySem.F.plainAttrs_list PySem.F.slot_list_append PySem.F.type_list_append hm (pv 1) h) (pv 1) (s_tup (a_cons (s_op os_add (s_b (s_var (pv 5))) (s_b (s_var (pv 2)))) (a_cons (s_op os_add (s_b (s_var (pv 6))) (s_b (s_var (pv 2)))) (a_cons (s_var (pv 5)) (a_cons (s_var (pv 6)) (a_cons (s_var (pv 5)) (a_cons (s_op os_add (s_b (s_var (pv 6))) (s_b (s_var (pv 2)))) a_nil))))))))) (b_cons (x_appC (hpe := fun hm h => pe_bm PySem.F.plainAttrs_list PySem.F.slot_list_append PySem.F.type_list_append hm (pv 1) h) (pv 1) (s_tup (a_cons (s_op os_add (s_b (s_var (pv 5))) (s_b (s_var (pv 2)))) (a_cons (s_var (pv 6)) (a_cons (s_var (pv 5)) (a_cons (s_op os_add (s_b (s_var (pv 6))) (s_b (s_var (pv 2)))) (a_cons (s_op os_add (s_b (s_var (pv 5))) (s_b (s_var (pv 2)))) (a_cons (s_op os_add (s_b (s_var (pv 6))) (s_b (s_var (pv 2)))) a_nil)))))))) <|
    b_one (x_appC (hpe := fun hm h => pe_bm PySem.F.plainAttrs_list PySem.F.slot_list_append PySem.F.type_list_append hm (pv 1) h) (pv 1) (s_tup (a_cons (s_var (pv 5)) (a_cons (s_op os_add (s_b (s_var (pv 6))) (s_b (s_var (pv 2)))) (a_cons (s_op os_add (s_b (s_var (pv 5))) (s_b (s_var (pv 2)))) (a_cons (s_var (pv 6)) (a_cons (s_var (pv 5)) (a_cons (s_var (pv 6)) a_nil)))))))))))))) <|
    b_one (x_frz 1 (x_ret (s_var (pv 1))))
theorem F_law_roots {P : Program} {w : World} {K : PySem.W.Frag} {mg : Str → Option Value} {base : Heap} (Z : Facts K mg) : ∃ fd, FunD K (d_law_roots).name (d_law_roots).qual (d_law_roots).params (d_law_roots).body (d_law_roots).scope ((d_law_roots).dvs K) ((d_law_roots).kws K) (He.fAd K (d_law_roots).at_) fd ∧ FnOk P w K mg base (L2.CX P w) 1 (He.fAd K (d_law_roots).at_) fd ps_law_roots (spG (tb K) 1 (fnS 6 m_law_roots)) := by
  obtain ⟨fd, F⟩ := Z.fn 13 d_law_roots rfl
  exact ⟨fd, F, fn_okD F sc_law_roots fun _ _ _ _ _ _ _ _ _ _ hr tk => w_law_roots Z hr tk⟩
theorem D_law_roots {P : Program} {w : World} {K : PySem.W.Frag} {mg : Str → Option Value} {base : Heap} (Z : Facts K mg) : Dn P w K mg base (tb K) "_law_roots" 1 [] 1 v_law_roots := by
  obtain ⟨fd, F, hF⟩ := F_law_roots (P := P) (w := w) (base := base) Z
  exact Dn.mk0 hF (Z.glo "_law_roots" (by decide +kernel)) F.kp (FunD.bindsN (ps := ps_law_roots) F (fun _ _ _ _ _ _ us hl => match us, hl with | [_], _ => rfl))
/-! ### _law_middle -/
def m_law_middle : SM :=
  seqS (ifS (orT (tst (opM eqF (opM modF (opM addF (opM ixF (varM 0) (cM (.int 0))) (opM ixF (varM 0) (cM (.int 2)))) (cM (.int 2))) (cM (.int 1)))) (tst (opM eqF (opM modF (opM addF (opM ixF (varM 0) (cM (.int 1))) (opM ixF (varM 0) (cM (.int 3)))) (cM (.int 2))) (cM (.int 1))))) (retS (cM .non)) nilS) <|
    retS (tupM (acons (opM divF (opM addF (opM ixF (varM 0) (cM (.int 0))) (opM ixF (varM 0) (cM (.int 2)))) (cM (.int 2))) (acons (opM divF (opM addF (opM ixF (varM 0) (cM (.int 1))) (opM ixF (varM 0) (cM (.int 3)))) (cM (.int 2))) anil)))
def v_law_middle : List T → Hs → Res T := fnV 0 m_law_middle
theorem w_law_middle {P : Program} {w : World} {K : PySem.W.Frag} {mg : Str → Option Value} {base : Heap} {f : Addr} {cdv : Value} {A : Around} {outer : List Env} {s : Shared} {H : Hp} {E : XK} {ga : List V} {W : WX} {w0 : Wd} {as : List Sl} (Z : Facts K mg) (hr : Room 0 (A.deeper (PyProof.Rows.envOfC "_law_middle" (defScope s_law_middle) s.heap.objs.size f cdv)))
    (tk : Takes (cxOf (L2.CX P w) P w K mg base N_law_middle "_law_middle" (defScope s_law_middle) f cdv A outer s H E) W) : PSs (cxOf (L2.CX P w) P w K mg base N_law_middle "_law_middle" (defScope s_law_middle) f cdv A outer s H E) (defBody s_law_middle) (tS ⟨tb K, ga, W, w0, as⟩ m_law_middle) :=
  b_cons (x_if (st_bool (st_or (st_cmp (os_eq hr rfl) (s_b (s_op os_mod (s_b (s_op os_add (s_b (s_ix (is_ix rfl) (s_b (s_var (pv 0))) (s_b s_int))) (s_b (s_ix (is_ix rfl) (s_b (s_var (pv 0))) (s_b s_int))))) (s_b s_int))) (s_b s_int)) (st_or1 (st_cmp (os_eq hr rfl) (s_b (s_op os_mod (s_b (s_op os_add (s_b (s_ix (is_ix rfl) (s_b (s_var (pv 0))) (s_b s_int))) (s_b (s_ix (is_ix rfl) (s_b (s_var (pv 0))) (s_b s_int))))) (s_b s_int))) (s_b s_int))))) (b_one (x_ret s_non)) b_nil) <|
    b_one (x_ret (s_tup (a_cons (s_op os_div (s_b (s_op os_add (s_b (s_ix (is_ix rfl) (s_b (s_var (pv 0))) (s_b s_int))) (s_b (s_ix (is_ix rfl) (s_b (s_var (pv 0))) (s_b s_int))))) (s_b s_int)) (a_cons (s_op os_div (s_b (s_op os_add (s_b (s_ix (is_ix rfl) (s_b (s_var (pv 0))) (s_b s_int))) (s_b (s_ix (is_ix rfl) (s_b (s_var (pv 0))) (s_b s_int))))) (s_b s_int)) a_nil))))
theorem F_law_middle {P : Program} {w : World} {K : PySem.W.Frag} {mg : Str → Option Value} {base : Heap} (Z : Facts K mg) : ∃ fd, FunD K (d_law_middle).name (d_law_middle).qual (d_law_middle).params (d_law_middle).body (d_law_middle).scope ((d_law_middle).dvs K) ((d_law_middle).kws K) (He.fAd K (d_law_middle).at_) fd ∧ FnOk P w K mg base (L2.CX P w) 1 (He.fAd K (d_law_middle).at_) fd ps_law_middle (spG (tb K) 1 (fnS 0 m_law_middle)) := by
  obtain ⟨fd, F⟩ := Z.fn 14 d_law_middle rfl
  exact ⟨fd, F, fn_okD F sc_law_middle fun _ _ _ _ _ _ _ _ _ _ hr tk => w_law_middle Z hr tk⟩
theorem D_law_middle {P : Program} {w : World} {K : PySem.W.Frag} {mg : Str → Option Value} {base : Heap} (Z : Facts K mg) : Dn P w K mg base (tb K) "_law_middle" 1 [] 1 v_law_middle := by
  obtain ⟨fd, F, hF⟩ := F_law_middle (P := P) (w := w) (base := base) Z
  exact Dn.mk0 hF (Z.glo "_law_middle" (by decide +kernel)) F.kp (FunD.bindsN (ps := ps_law_middle) F (fun _ _ _ _ _ _ us hl => match us, hl with | [_], _ => rfl))
/-! ### _law_halves -/
def m_law_halves : SM :=
  seqS (asgS (callM 1 [] v_law_middle (acons (varM 0) anil)) (gOne 1)) <|
    seqS (asgS (tupM (acons (opM ixF (varM 0) (cM (.int 0))) (acons (opM ixF (varM 0) (cM (.int 1))) (acons (opM ixF (varM 0) (cM (.int 4))) (acons (opM ixF (varM 0) (cM (.int 5))) (acons (opM ixF (varM 1) (cM (.int 0))) (acons (opM ixF (varM 1) (cM (.int 1))) anil))))))) (gOne 2)) <|
    seqS (asgS (tupM (acons (opM ixF (varM 0) (cM (.int 4))) (acons (opM ixF (varM 0) (cM (.int 5))) (acons (opM ixF (varM 0) (cM (.int 2))) (acons (opM ixF (varM 0) (cM (.int 3))) (acons (opM ixF (varM 1) (cM (.int 0))) (acons (opM ixF (varM 1) (cM (.int 1))) anil))))))) (gOne 3)) <|
    retS (lstM (acons (varM 2) (acons (varM 3) anil)))
def v_law_halves : List T → Hs → Res T := fnV 3 m_law_halves
theorem w_law_halves {P : Program} {w : World} {K : PySem.W.Frag} {mg : Str → Option Value} {base : Heap} {f : Addr} {cdv : Value} {A : Around} {outer : List Env} {s : Shared} {H : Hp} {E : XK} {ga : List V} {W : WX} {w0 : Wd} {as : List Sl} (Z : Facts K mg) (hr : Room 1 (A.deeper (PyProof.Rows.envOfC "_law_halves" (defScope s_law_halves) s.heap.objs.size f cdv)))
    (tk : Takes (cxOf (L2.CX P w) P w K mg base N_law_halves "_law_halves" (defScope s_law_halves) f cdv A outer s H E) W) : PSs (cxOf (L2.CX P w) P w K mg base N_law_halves "_law_halves" (defScope s_law_halves) f cdv A outer s H E) (defBody s_law_halves) (tS ⟨tb K, ga, W, w0, as⟩ m_law_halves) :=
  b_cons (x_set sc_law_halves.nd rfl (by first | exact .inl rfl | exact .inr rfl) (s_call ((D_law_middle Z).mono (by decide)) hr rfl tk (a_cons (s_var (pv 0)) a_nil))) <|
    b_cons (x_set sc_law_halves.nd rfl (by first | exact .inl rfl | exact .inr rfl) (s_tup (a_cons (s_ix (is_ix rfl) (s_b (s_var (pv 0))) (s_b s_int)) (a_cons (s_ix (is_ix rfl) (s_b (s_var (pv 0))) (s_b s_int)) (a_cons (s_ix (is_ix rfl) (s_b (s_var (pv 0))) (s_b s_int)) (a_cons (s_ix (is_ix rfl) (s_b (s_var (pv 0))) (s_b s_int)) (a_cons (s_ix (is_ix rfl) (s_b (s_var (pv 1))) (s_b s_int)) (a_cons (s_ix (is_ix rfl) (s_b (s_var (pv 1))) (s_b s_int)) a_nil)))))))) <|
    b_cons (x_set sc_law_halves.nd rfl (by first | exact .inl rfl | exact .inr rfl) (s_tup (a_cons (s_ix (is_ix rfl) (s_b (s_var (pv 0))) (s_b s_int)) (a_cons (s_ix (is_ix rfl) (s_b (s_var (pv 0))) (s_b s_int)) (a_cons (s_ix (is_ix rfl) (s_b (s_var (pv 0))) (s_b s_int)) (a_cons (s_ix (is_ix rfl) (s_b (s_var (pv 0))) (s_b s_int)) (a_cons (s_ix (is_ix rfl) (s_b (s_var (pv 1))) (s_b s_int)) (a_cons (s_ix (is_ix rfl) (s_b (s_var (pv 1))) (s_b s_int)) a_nil)))))))) <|
    b_one (x_ret (s_lst (a_cons (s_var (pv 2)) (a_cons (s_var (pv 3)) a_nil))))
theorem F_law_halves {P : Program} {w : World} {K : PySem.W.Frag} {mg : Str → Option Value} {base : Heap} (Z : Facts K mg) : ∃ fd, FunD K (d_law_halves).name (d_law_halves).qual (d_law_halves).params (d_law_halves).body (d_law_halves).scope ((d_law_halves).dvs K) ((d_law_halves).kws K) (He.fAd K (d_law_halves).at_) fd ∧ FnOk P w K mg base (L2.CX P w) 2 (He.fAd K (d_law_halves).at_) fd ps_law_halves (spG (tb K) 1 (fnS 3 m_law_halves)) := by
  obtain ⟨fd, F⟩ := Z.fn 15 d_law_halves rfl
  exact ⟨fd, F, fn_okD F sc_law_halves fun _ _ _ _ _ _ _ _ _ _ hr tk => w_law_halves Z hr tk⟩
theorem D_law_halves {P : Program} {w : World} {K : PySem.W.Frag} {mg : Str → Option Value} {base : Heap} (Z : Facts K mg) : Dn P w K mg base (tb K) "_law_halves" 1 [] 2 v_law_halves := by
  obtain ⟨fd, F, hF⟩ := F_law_halves (P := P) (w := w) (base := base) Z
  exact Dn.mk0 hF (Z.glo "_law_halves" (by decide +kernel)) F.kp (FunD.bindsN (ps := ps_law_halves) F (fun _ _ _ _ _ _ us hl => match us, hl with | [_], _ => rfl))
/-! ### _law_corners_of -/
def m_law_corners_of : SM :=
  retS (lstM (acons (tupM (acons (opM ixF (varM 0) (cM (.int 0))) (acons (opM ixF (varM 0) (cM (.int 1))) anil))) (acons (tupM (acons (opM ixF (varM 0) (cM (.int 2))) (acons (opM ixF (varM 0) (cM (.int 3))) anil))) (acons (tupM (acons (opM ixF (varM 0) (cM (.int 4))) (acons (opM ixF (varM 0) (cM (.int 5))) anil))) anil))))
def v_law_corners_of : List T → Hs → Res T := fnV 0 m_law_corners_of
theorem w_law_corners_of {P : Program} {w : World} {K : PySem.W.Frag} {mg : Str → Option Value} {base : Heap} {f : Addr} {cdv : Value} {A : Around} {outer : List Env} {s : Shared} {H : Hp} {E : XK} {ga : List V} {W : WX} {w0 : Wd} {as : List Sl} (Z : Facts K mg) (hr : Room 0 (A.deeper (PyProof.Rows.envOfC "_law_corners_of" (defScope s_law_corners_of) s.heap.objs.size f cdv)))
    (tk : Takes (cxOf (L2.CX P w) P w K mg base N_law_corners_of "_law_corners_of" (defScope s_law_corners_of) f cdv A outer s H E) W) : PSs (cxOf (L2.CX P w) P w K mg base N_law_corners_of "_law_corners_of" (defScope s_law_corners_of) f cdv A outer s H E) (defBody s_law_corners_of) (tS ⟨tb K, ga, W, w0, as⟩ m_law_corners_of) :=
  b_one (x_ret (s_lst (a_cons (s_tup (a_cons (s_ix (is_ix rfl) (s_b (s_var (pv 0))) (s_b s_int)) (a_cons (s_ix (is_ix rfl) (s_b (s_var (pv 0))) (s_b s_int)) a_nil))) (a_cons (s_tup (a_cons (s_ix (is_ix rfl) (s_b (s_var (pv 0))) (s_b s_int)) (a_cons (s_ix (is_ix rfl) (s_b (s_var (pv 0))) (s_b s_int)) a_nil))) (a_cons (s_tup (a_cons (s_ix (is_ix rfl) (s_b (s_var (pv 0))) (s_b s_int)) (a_cons (s_ix (is_ix rfl) (s_b (s_var (pv 0))) (s_b s_int)) a_nil))) a_nil)))))
theorem F_law_corners_of {P : Program} {w : World} {K : PySem.W.Frag} {mg : Str → Option Value} {base : Heap} (Z : Facts K mg) : ∃ fd, FunD K (d_law_corners_of).name (d_law_corners_of).qual (d_law_corners_of).params (d_law_corners_of).body (d_law_corners_of).scope ((d_law_corners_of).dvs K) ((d_law_corners_of).kws K) (He.fAd K (d_law_corners_of).at_) fd ∧ FnOk P w K mg base (L2.CX P w) 1 (He.fAd K (d_law_corners_of).at_) fd ps_law_corners_of (spG (tb K) 1 (fnS 0 m_law_corners_of)) := by
  obtain ⟨fd, F⟩ := Z.fn 16 d_law_corners_of rfl
  exact ⟨fd, F, fn_okD F sc_law_corners_of fun _ _ _ _ _ _ _ _ _ _ hr tk => w_law_corners_of Z hr tk⟩
theorem D_law_corners_of {P : Program} {w : World} {K : PySem.W.Frag} {mg : Str → Option Value} {base : Heap} (Z : Facts K mg) : Dn P w K mg base (tb K) "_law_corners_of" 1 [] 1 v_law_corners_of := by
  obtain ⟨fd, F, hF⟩ := F_law_corners_of (P := P) (w := w) (base := base) Z
  exact Dn.mk0 hF (Z.glo "_law_corners_of" (by decide +kernel)) F.kp (FunD.bindsN (ps := ps_law_corners_of) F (fun _ _ _ _ _ _ us hl => match us, hl with | [_], _ => rfl))
/-! ### _law_low -/
def m_law_low : SM :=
  seqS (asgS (callBM absF (acons (varM 0) anil)) (gOne 2)) <|
    seqS (asgS (callBM absF (acons (varM 1) anil)) (gOne 3)) <|
    seqS (whileL (tst (opM gtF (varM 3) (cM (.int 0)))) (seqS (asgS (opM modF (varM 2) (varM 3)) (gOne 4)) <|
    seqS (asgS (varM 3) (gOne 2)) <|
    asgS (varM 4) (gOne 3)) 64) <|
    seqS (ifS (tst (opM ltF (varM 1) (cM (.int 0)))) (asgS (opM subF (cM (.int 0)) (varM 2)) (gOne 2)) nilS) <|
    retS (tupM (acons (opM divF (varM 0) (varM 2)) (acons (opM divF (varM 1) (varM 2)) anil)))
def v_law_low : List T → Hs → Res T := fnV 3 m_law_low
theorem w_law_low {P : Program} {w : World} {K : PySem.W.Frag} {mg : Str → Option Value} {base : Heap} {f : Addr} {cdv : Value} {A : Around} {outer : List Env} {s : Shared} {H : Hp} {E : XK} {ga : List V} {W : WX} {w0 : Wd} {as : List Sl} (Z : Facts K mg) (hr : Room 0 (A.deeper (PyProof.Rows.envOfC "_law_low" (defScope s_law_low) s.heap.objs.size f cdv)))
    (tk : Takes (cxOf (L2.CX P w) P w K mg base N_law_low "_law_low" (defScope s_law_low) f cdv A outer s H E) W) : PSs (cxOf (L2.CX P w) P w K mg base N_law_low "_law_low" (defScope s_law_low) f cdv A outer s H E) (defBody s_law_low) (tS ⟨tb K, ga, W, w0, as⟩ m_law_low) :=
  b_cons (x_set sc_law_low.nd rfl (by first | exact .inl rfl | exact .inr rfl) (s_callB cs_abs rfl (Z.free "abs" (by decide +kernel)) bt_abs (ab_cons (s_b (s_var (pv 0))) ab_nil))) <|
    b_cons (x_set sc_law_low.nd rfl (by first | exact .inl rfl | exact .inr rfl) (s_callB cs_abs rfl (Z.free "abs" (by decide +kernel)) bt_abs (ab_cons (s_b (s_var (pv 1))) ab_nil))) <|
    b_cons (x_while 64 (passes_of rfl) (st_cmp os_gt (s_b (s_var (pv 3))) (s_b s_int)) (b_cons (x_set sc_law_low.nd rfl (by first | exact .inl rfl | exact .inr rfl) (s_op os_mod (s_b (s_var (pv 2))) (s_b (s_var (pv 3))))) <|
    b_cons (x_set sc_law_low.nd rfl (by first | exact .inl rfl | exact .inr rfl) (s_var (pv 3))) <|
    b_one (x_set sc_law_low.nd rfl (by first | exact .inl rfl | exact .inr rfl) (s_var (pv 4))))) <|
    b_cons (x_if (st_cmp os_lt (s_b (s_var (pv 1))) (s_b s_int)) (b_one (x_set sc_law_low.nd rfl (by first | exact .inl rfl | exact .inr rfl) (s_op os_sub (s_b s_int) (s_b (s_var (pv 2)))))) b_nil) <|
    b_one (x_ret (s_tup (a_cons (s_op os_div (s_b (s_var (pv 0))) (s_b (s_var (pv 2)))) (a_cons (s_op os_div (s_b (s_var (pv 1))) (s_b (s_var (pv 2)))) a_nil))))
theorem F_law_low {P : Program} {w : World} {K : PySem.W.Frag} {mg : Str → Option Value} {base : Heap} (Z : Facts K mg) : ∃ fd, FunD K (d_law_low).name (d_law_low).qual (d_law_low).params (d_law_low).body (d_law_low).scope ((d_law_low).dvs K) ((d_law_low).kws K) (He.fAd K (d_law_low).at_) fd ∧ FnOk P w K mg base (L2.CX P w) 1 (He.fAd K (d_law_low).at_) fd ps_law_low (spG (tb K) 2 (fnS 3 m_law_low)) := by
  obtain ⟨fd, F⟩ := Z.fn 17 d_law_low rfl
  exact ⟨fd, F, fn_okD F sc_law_low fun _ _ _ _ _ _ _ _ _ _ hr tk => w_law_low Z hr tk⟩
theorem D_law_low {P : Program} {w : World} {K : PySem.W.Frag} {mg : Str → Option Value} {base : Heap} (Z : Facts K mg) : Dn P w K mg base (tb K) "_law_low" 2 [] 1 v_law_low := by
  obtain ⟨fd, F, hF⟩ := F_law_low (P := P) (w := w) (base := base) Z
  exact Dn.mk0 hF (Z.glo "_law_low" (by decide +kernel)) F.kp (FunD.bindsN (ps := ps_law_low) F (fun _ _ _ _ _ _ us hl => match us, hl with | [_, _], _ => rfl))
/-! ### _law_tolerance -/
def m_law_tolerance : SM :=
  seqS (asgS (callM 2 [] v_law_draw (acons (varM 0) (acons (cM (.int 5)) anil))) (gOne 1)) <|
    seqS (ifS (tst (opM eqF (varM 1) (cM (.int 0)))) (retS (tupM (acons (cM (.int 0)) (acons (cM (.int 1)) anil)))) nilS) <|
    seqS (ifS (tst (opM eqF (varM 1) (cM (.int 1)))) (retS (tupM (acons (callM 2 [] v_law_draw (acons (varM 0) (acons (cM (.int 6)) anil))) (acons (cM (.int 1)) anil)))) nilS) <|
    seqS (ifS (tst (opM eqF (varM 1) (cM (.int 2)))) (retS (callM 2 [] v_law_low (acons (callM 2 [] v_law_draw (acons (varM 0) (acons (cM (.int 40)) anil))) (acons (opM addF (cM (.int 1)) (callM 2 [] v_law_draw (acons (varM 0) (acons (cM (.int 8)) anil)))) anil)))) nilS) <|
    retS (tupM (acons (callM 2 [] v_law_draw (acons (varM 0) (acons (cM (.int 1500)) anil))) (acons (cM (.int 1)) anil)))
def v_law_tolerance : List T → Hs → Res T := fnV 1 m_law_tolerance
theorem w_law_tolerance {P : Program} {w : World} {K : PySem.W.Frag} {mg : Str → Option Value} {base : Heap} {f : Addr} {cdv : Value} {A : Around} {outer : List Env} {s : Shared} {H : Hp} {E : XK} {ga : List V} {W : WX} {w0 : Wd} {as : List Sl} (Z : Facts K mg) (hr : Room 1 (A.deeper (PyProof.Rows.envOfC "_law_tolerance" (defScope s_law_tolerance) s.heap.objs.size f cdv)))
    (tk : Takes (cxOf (L2.CX P w) P w K mg base N_law_tolerance "_law_tolerance" (defScope s_law_tolerance) f cdv A outer s H E) W) : PSs (cxOf (L2.CX P w) P w K mg base N_law_tolerance "_law_tolerance" (defScope s_law_tolerance) f cdv A outer s H E) (defBody s_law_tolerance) (tS ⟨tb K, ga, W, w0, as⟩ m_law_tolerance) :=
  b_cons (x_set sc_law_tolerance.nd rfl (by first | exact .inl rfl | exact .inr rfl) (s_call ((D_law_draw Z).mono (by decide)) hr rfl tk (a_cons (s_var (pv 0)) (a_cons s_int a_nil)))) <|
    b_cons (x_if (st_cmp (os_eq hr rfl) (s_b (s_var (pv 1))) (s_b s_int)) (b_one (x_ret (s_tup (a_cons s_int (a_cons s_int a_nil))))) b_nil) <|
    b_cons (x_if (st_cmp (os_eq hr rfl) (s_b (s_var (pv 1))) (s_b s_int)) (b_one (x_ret (s_tup (a_cons (s_call ((D_law_draw Z).mono (by decide)) hr rfl tk (a_cons (s_var (pv 0)) (a_cons s_int a_nil))) (a_cons s_int a_nil))))) b_nil) <|
    b_cons (x_if (st_cmp (os_eq hr rfl) (s_b (s_var (pv 1))) (s_b s_int)) (b_one (x_ret (s_call ((D_law_low Z).mono (by decide)) hr rfl tk (a_cons (s_call ((D_law_draw Z).mono (by decide)) hr rfl tk (a_cons (s_var (pv 0)) (a_cons s_int a_nil))) (a_cons (s_op os_add (s_b s_int) (s_b (s_call ((D_law_draw Z).mono (by decide)) hr rfl tk (a_cons (s_var (pv 0)) (a_cons s_int a_nil))))) a_nil))))) b_nil) <|
    b_one (x_ret (s_tup (a_cons (s_call ((D_law_draw Z).mono (by decide)) hr rfl tk (a_cons (s_var (pv 0)) (a_cons s_int a_nil))) (a_cons s_int a_nil))))
theorem F_law_tolerance {P : Program} {w : World} {K : PySem.W.Frag} {mg : Str → Option Value} {base : Heap} (Z : Facts K mg) : ∃ fd, FunD K (d_law_tolerance).name (d_law_tolerance).qual (d_law_tolerance).params (d_law_tolerance).body (d_law_tolerance).scope ((d_law_tolerance).dvs K) ((d_law_tolerance).kws K) (He.fAd K (d_law_tolerance).at_) fd ∧ FnOk P w K mg base (L2.CX P w) 2 (He.fAd K (d_law_tolerance).at_) fd ps_law_tolerance (spG (tb K) 1 (fnS 1 m_law_tolerance)) := by
  obtain ⟨fd, F⟩ := Z.fn 18 d_law_tolerance rfl
  exact ⟨fd, F, fn_okD F sc_law_tolerance fun _ _ _ _ _ _ _ _ _ _ hr tk => w_law_tolerance Z hr tk⟩
theorem D_law_tolerance {P : Program} {w : World} {K : PySem.W.Frag} {mg : Str → Option Value} {base : Heap} (Z : Facts K mg) : Dn P w K mg base (tb K) "_law_tolerance" 1 [] 2 v_law_tolerance := by
  obtain ⟨fd, F, hF⟩ := F_law_tolerance (P := P) (w := w) (base := base) Z
  exact Dn.mk0 hF (Z.glo "_law_tolerance" (by decide +kernel)) F.kp (FunD.bindsN (ps := ps_law_tolerance) F (fun _ _ _ _ _ _ us hl => match us, hl with | [_], _ => rfl))
/-! ### _law_sight -/
def m_law_sight : SM :=
  seqS (asgS (cM .non) (gOne 2)) <|
    seqS (ifS (tst (opM eqF (callM 2 [] v_law_draw (acons (varM 0) (acons (cM (.int 3)) anil))) (cM (.int 1)))) (asgS (tupM (acons (opM subF (callM 2 [] v_law_draw (acons (varM 0) (acons (cM (.int 40)) anil))) (cM (.int 12))) (acons (opM subF (callM 2 [] v_law_draw (acons (varM 0) (acons (cM (.int 40)) anil))) (cM (.int 12))) anil))) (gOne 2)) nilS) <|
    seqS (newS 3 (lstM anil)) <|
    seqS (forS (rng1Src (opM ixF (lstM (acons (cM (.int 0)) (acons (cM (.int 0)) (acons (cM (.int 1)) (acons (cM (.int 2)) (acons (cM (.int 3)) anil)))))) (callM 2 [] v_law_draw (acons (varM 0) (acons (cM (.int 5)) anil))))) (gOne 4) (seqS (asgS (tupM (acons (opM subF (callM 2 [] v_law_draw (acons (varM 0) (acons (cM (.int 13)) anil))) (cM (.int 2))) (acons (opM subF (callM 2 [] v_law_draw (acons (varM 0) (acons (cM (.int 13)) anil))) (cM (.int 2))) (acons (opM subF (callM 2 [] v_law_draw (acons (varM 0) (acons (cM (.int 13)) anil))) (cM (.int 2))) (acons (opM subF (callM 2 [] v_law_draw (acons (varM 0) (acons (cM (.int 13)) anil))) (cM (.int 2))) anil))))) (gOne 5)) <|
    appC 3 (tupM (acons (opM ixF (varM 5) (cM (.int 0))) (acons (opM ixF (varM 5) (cM (.int 1))) (acons (opM ixF (varM 5) (cM (.int 2))) (acons (opM ixF (varM 5) (cM (.int 3))) (acons (callM 1 [] v_law_tolerance (acons (varM 0) anil)) anil)))))))) <|
    frzS 3 (retS (tupM (acons (callM 1 [] v_law_tolerance (acons (varM 0) anil)) (acons (varM 2) (acons (varM 3) anil)))))
def v_law_sight : List T → Hs → Res T := fnV 4 m_law_sight
theorem w_law_sight {P : Program} {w : World} {K : PySem.W.Frag} {mg : Str → Option Value} {base : Heap} {f : Addr} {cdv : Value} {A : Around} {outer : List Env} {s : Shared} {H : Hp} {E : XK} {ga : List V} {W : WX} {w0 : Wd} {as : List Sl} (Z : Facts K mg) (hr : Room 2 (A.deeper (PyProof.Rows.envOfC "_law_sight" (defScope s_law_sight) s.heap.objs.size f cdv)))
    (tk : Takes (cxOf (L2.CX P w) P w K mg base N_law_sight "_law_sight" (defScope s_law_sight) f cdv A outer s H E) W) : PSs (cxOf (L2.CX P w) P w K mg base N_law_sight "_law_sight" (defScope s_law_sight) f cdv A outer s H E) (defBody s_law_sight) (tS ⟨tb K, ga, W, w0, as⟩ m_law_sight) :=
  b_cons (x_set sc_law_sight.nd rfl (by first | exact .inl rfl | exact .inr rfl) s_non) <|
    b_cons (x_if (st_cmp (os_eq hr rfl) (s_b (s_call ((D_law_draw Z).mono (by decide)) hr rfl tk (a_cons (s_var (pv 0)) (a_cons s_int a_nil)))) (s_b s_int)) (b_one (x_set sc_law_sight.nd rfl (by first | exact .inl rfl | exact .inr rfl) (s_tup (a_cons (s_op os_sub (s_b (s_call ((D_law_draw Z).mono (by decide)) hr rfl tk (a_cons (s_var (pv 0)) (a_cons s_int a_nil)))) (s_b s_int)) (a_cons (s_op os_sub (s_b (s_call ((D_law_draw Z).mono (by decide)) hr rfl tk (a_cons (s_var (pv 0)) (a_cons s_int a_nil)))) (s_b s_int)) a_nil))))) b_nil) <|
    b_cons (x_new sc_law_sight.nd rfl (by first | exact .inl rfl | exact .inr rfl) (f_lst a_nil)) <|
    b_cons (x_for (passes_of rfl) rfl (gt_one 4) (i_rng1 rfl (Z.free "range" (by decide +kernel)) (s_b (s_ix (is_ix rfl) (s_b (s_lst (a_cons s_int (a_cons s_int (a_cons s_int (a_cons s_int (a_cons s_int a_nil))))))) (s_b (s_call ((D_law_draw Z).mono (by decide)) hr rfl tk (a_cons (s_var (pv 0)) (a_cons s_int a_nil))))))) (pg_name sc_law_sight.nd rfl (by first | exact .inl rfl | exact .inr rfl)) (b_cons (x_set sc_law_sight.nd rfl (by first | exact .inl rfl | exact .inr rfl) (s_tup (a_cons (s_op os_sub (s_b (s_call ((D_law_draw Z).mono (by decide)) hr rfl tk (a_cons (s_var (pv 0)) (a_cons s_int a_nil)))) (s_b s_int)) (a_cons (s_op os_sub (s_b (s_call ((D_law_draw Z).mono (by decide)) hr rfl tk (a_cons (s_var (pv 0)) (a_cons s_int a_nil)))) (s_b s_int)) (a_cons (s_op os_sub (s_b (s_call ((D_law_draw Z).mono (by decide)) hr rfl tk (a_cons (s_var (pv 0)) (a_cons s_int a_nil)))) (s_b s_int)) (a_cons (s_op os_sub (s_b (s_call ((D_law_draw Z).mono (by decide)) hr rfl tk (a_cons (s_var (pv 0)) (a_cons s_int a_nil)))) (s_b s_int)) a_nil)))))) <|
    b_one (x_appC (hpe := fun hm h => pe_bm PySem.F.plainAttrs_list PySem.F.slot_list_append PySem.F.type_list_append hm (pv 3) h) (pv 3) (s_tup (a_cons (s_ix (is_ix rfl) (s_b (s_var (pv 5))) (s_b s_int)) (a_cons (s_ix (is_ix rfl) (s_b (s_var (pv 5))) (s_b s_int)) (a_cons (s_ix (is_ix rfl) (s_b (s_var (pv 5))) (s_b s_int)) (a_cons (s_ix (is_ix rfl) (s_b (s_var (pv 5))) (s_b s_int)) (a_cons (s_call ((D_law_tolerance Z).mono (by decide)) hr rfl tk (a_cons (s_var (pv 0)) a_nil)) a_nil))))))))) <|
    b_one (x_frz 3 (x_ret (s_tup (a_cons (s_call ((D_law_tolerance Z).mono (by decide)) hr rfl tk (a_cons (s_var (pv 0)) a_nil)) (a_cons (s_var (pv 2)) (a_cons (s_var (pv 3)) a_nil))))))
theorem F_law_sight {P : Program} {w : World} {K : PySem.W.Frag} {mg : Str → Option Value} {base : Heap} (Z : Facts K mg) : ∃ fd, FunD K (d_law_sight).name (d_law_sight).qual (d_law_sight).params (d_law_sight).body (d_law_sight).scope ((d_law_sight).dvs K) ((d_law_sight).kws K) (He.fAd K (d_law_sight).at_) fd ∧ FnOk P w K mg base (L2.CX P w) 3 (He.fAd K (d_law_sight).at_) fd ps_law_sight (spG (tb K) 2 (fnS 4 m_law_sight)) := by
  obtain ⟨fd, F⟩ := Z.fn 19 d_law_sight rfl
  exact ⟨fd, F, fn_okD F sc_law_sight fun _ _ _ _ _ _ _ _ _ _ hr tk => w_law_sight Z hr tk⟩
theorem D_law_sight {P : Program} {w : World} {K : PySem.W.Frag} {mg : Str → Option Value} {base : Heap} (Z : Facts K mg) : Dn P w K mg base (tb K) "_law_sight" 2 [] 3 v_law_sight := by
  obtain ⟨fd, F, hF⟩ := F_law_sight (P := P) (w := w) (base := base) Z
  exact Dn.mk0 hF (Z.glo "_law_sight" (by decide +kernel)) F.kp (FunD.bindsN (ps := ps_law_sight) F (fun _ _ _ _ _ _ us hl => match us, hl with | [_, _], _ => rfl))
/-! ### _law_limit -/
def m_law_limit : SM :=
  seqS (asgS (cM .non) (gOne 2)) <|
    seqS (forS (seqSrc (opM ixF (varM 0) (cM (.int 2)))) (gOne 3) (seqS (asgS (opM geF (callBM maxF (acons (opM ixF (varM 3) (cM (.int 0))) (acons (opM ixF (varM 3) (cM (.int 2))) anil))) (callBM minF (acons (opM ixF (varM 1) (cM (.int 0))) (acons (opM ixF (varM 1) (cM (.int 2))) (acons (opM ixF (varM 1) (cM (.int 4))) anil))))) (gOne 4)) <|
    seqS (asgS (andM (varM 4) (opM leF (callBM minF (acons (opM ixF (varM 3) (cM (.int 0))) (acons (opM ixF (varM 3) (cM (.int 2))) anil))) (callBM maxF (acons (opM ixF (varM 1) (cM (.int 0))) (acons (opM ixF (varM 1) (cM (.int 2))) (acons (opM ixF (varM 1) (cM (.int 4))) anil)))))) (gOne 4)) <|
    seqS (asgS (opM geF (callBM maxF (acons (opM ixF (varM 3) (cM (.int 1))) (acons (opM ixF (varM 3) (cM (.int 3))) anil))) (callBM minF (acons (opM ixF (varM 1) (cM (.int 1))) (acons (opM ixF (varM 1) (cM (.int 3))) (acons (opM ixF (varM 1) (cM (.int 5))) anil))))) (gOne 5)) <|
    seqS (asgS (andM (varM 5) (opM leF (callBM minF (acons (opM ixF (varM 3) (cM (.int 1))) (acons (opM ixF (varM 3) (cM (.int 3))) anil))) (callBM maxF (acons (opM ixF (varM 1) (cM (.int 1))) (acons (opM ixF (varM 1) (cM (.int 3))) (acons (opM ixF (varM 1) (cM (.int 5))) anil)))))) (gOne 5)) <|
    ifS (andT (tst (varM 4)) (tst (varM 5))) (ifS (orT (tst (opM isF (varM 2) (cM .non))) (tst (opM ltF (opM mulF (opM ixF (opM ixF (varM 3) (cM (.int 4))) (cM (.int 0))) (opM ixF (varM 2) (cM (.int 1)))) (opM mulF (opM ixF (varM 2) (cM (.int 0))) (opM ixF (opM ixF (varM 3) (cM (.int 4))) (cM (.int 1))))))) (asgS (opM ixF (varM 3) (cM (.int 4))) (gOne 2)) nilS) nilS)) <|
    seqS (ifS (tst (opM isF (varM 2) (cM .non))) (retS (opM ixF (varM 0) (cM (.int 0)))) nilS) <|
    retS (varM 2)
def v_law_limit : List T → Hs → Res T := fnV 4 m_law_limit
theorem w_law_limit {P : Program} {w : World} {K : PySem.W.Frag} {mg : Str → Option Value} {base : Heap} {f : Addr} {cdv : Value} {A : Around} {outer : List Env} {s : Shared} {H : Hp} {E : XK} {ga : List V} {W : WX} {w0 : Wd} {as : List Sl} (Z : Facts K mg) (hr : Room 0 (A.deeper (PyProof.Rows.envOfC "_law_limit" (defScope s_law_limit) s.heap.objs.size f cdv)))
    (tk : Takes (cxOf (L2.CX P w) P w K mg base N_law_limit "_law_limit" (defScope s_law_limit) f cdv A outer s H E) W) : PSs (cxOf (L2.CX P w) P w K mg base N_law_limit "_law_limit" (defScope s_law_limit) f cdv A outer s H E) (defBody s_law_limit) (tS ⟨tb K, ga, W, w0, as⟩ m_law_limit) :=
  b_cons (x_set sc_law_limit.nd rfl (by first | exact .inl rfl | exact .inr rfl) s_non) <|
    b_cons (x_for (passes_of rfl) rfl (gt_one 3) (i_seq rfl (s_ix (is_ix rfl) (s_b (s_var (pv 0))) (s_b s_int))) (pg_name sc_law_limit.nd rfl (by first | exact .inl rfl | exact .inr rfl)) (b_cons (x_set sc_law_limit.nd rfl (by first | exact .inl rfl | exact .inr rfl) (s_cmp os_ge (s_b (s_callB (cs_max rfl rfl) rfl (Z.free "max" (by decide +kernel)) bt_max (ab_cons (s_b (s_ix (is_ix rfl) (s_b (s_var (pv 3))) (s_b s_int))) (ab_cons (s_b (s_ix (is_ix rfl) (s_b (s_var (pv 3))) (s_b s_int))) ab_nil)))) (s_b (s_callB (cs_min rfl rfl) rfl (Z.free "min" (by decide +kernel)) bt_min (ab_cons (s_b (s_ix (is_ix rfl) (s_b (s_var (pv 1))) (s_b s_int))) (ab_cons (s_b (s_ix (is_ix rfl) (s_b (s_var (pv 1))) (s_b s_int))) (ab_cons (s_b (s_ix (is_ix rfl) (s_b (s_var (pv 1))) (s_b s_int))) ab_nil))))))) <|
    b_cons (x_set sc_law_limit.nd rfl (by first | exact .inl rfl | exact .inr rfl) (s_and (s_var (pv 4)) (s_one (s_cmp os_le (s_b (s_callB (cs_min rfl rfl) rfl (Z.free "min" (by decide +kernel)) bt_min (ab_cons (s_b (s_ix (is_ix rfl) (s_b (s_var (pv 3))) (s_b s_int))) (ab_cons (s_b (s_ix (is_ix rfl) (s_b (s_var (pv 3))) (s_b s_int))) ab_nil)))) (s_b (s_callB (cs_max rfl rfl) rfl (Z.free "max" (by decide +kernel)) bt_max (ab_cons (s_b (s_ix (is_ix rfl) (s_b (s_var (pv 1))) (s_b s_int))) (ab_cons (s_b (s_ix (is_ix rfl) (s_b (s_var (pv 1))) (s_b s_int))) (ab_cons (s_b (s_ix (is_ix rfl) (s_b (s_var (pv 1))) (s_b s_int))) ab_nil))))))))) <|
    b_cons (x_set sc_law_limit.nd rfl (by first | exact .inl rfl | exact .inr rfl) (s_cmp os_ge (s_b (s_callB (cs_max rfl rfl) rfl (Z.free "max" (by decide +kernel)) bt_max (ab_cons (s_b (s_ix (is_ix rfl) (s_b (s_var (pv 3))) (s_b s_int))) (ab_cons (s_b (s_ix (is_ix rfl) (s_b (s_var (pv 3))) (s_b s_int))) ab_nil)))) (s_b (s_callB (cs_min rfl rfl) rfl (Z.free "min" (by decide +kernel)) bt_min (ab_cons (s_b (s_ix (is_ix rfl) (s_b (s_var (pv 1))) (s_b s_int))) (ab_cons (s_b (s_ix (is_ix rfl) (s_b (s_var (pv 1))) (s_b s_int))) (ab_cons (s_b (s_ix (is_ix rfl) (s_b (s_var (pv 1))) (s_b s_int))) ab_nil))))))) <|
    b_cons (x_set sc_law_limit.nd rfl (by first | exact .inl rfl | exact .inr rfl) (s_and (s_var (pv 5)) (s_one (s_cmp os_le (s_b (s_callB (cs_min rfl rfl) rfl (Z.free "min" (by decide +kernel)) bt_min (ab_cons (s_b (s_ix (is_ix rfl) (s_b (s_var (pv 3))) (s_b s_int))) (ab_cons (s_b (s_ix (is_ix rfl) (s_b (s_var (pv 3))) (s_b s_int))) ab_nil)))) (s_b (s_callB (cs_max rfl rfl) rfl (Z.free "max" (by decide +kernel)) bt_max (ab_cons (s_b (s_ix (is_ix rfl) (s_b (s_var (pv 1))) (s_b s_int))) (ab_cons (s_b (s_ix (is_ix rfl) (s_b (s_var (pv 1))) (s_b s_int))) (ab_cons (s_b (s_ix (is_ix rfl) (s_b (s_var (pv 1))) (s_b s_int))) ab_nil))))))))) <|
    b_one (x_if (st_bool (st_and (st_val (s_var (pv 4))) (st_and1 (st_val (s_var (pv 5)))))) (b_one (x_if (st_bool (st_or (st_cmp os_is (s_b (s_var (pv 2))) (s_b s_non)) (st_or1 (st_cmp os_lt (s_b (s_op os_mul (s_b (s_ix (is_ix rfl) (s_b (s_ix (is_ix rfl) (s_b (s_var (pv 3))) (s_b s_int))) (s_b s_int))) (s_b (s_ix (is_ix rfl) (s_b (s_var (pv 2))) (s_b s_int))))) (s_b (s_op os_mul (s_b (s_ix (is_ix rfl) (s_b (s_var (pv 2))) (s_b s_int))) (s_b (s_ix (is_ix rfl) (s_b (s_ix (is_ix rfl) (s_b (s_var (pv 3))) (s_b s_int))) (s_b s_int))))))))) (b_one (x_set sc_law_limit.nd rfl (by first | exact .inl rfl | exact .inr rfl) (s_ix (is_ix rfl) (s_b (s_var (pv 3))) (s_b s_int)))) b_nil)) b_nil))) <|
    b_cons (x_if (st_cmp os_is (s_b (s_var (pv 2))) (s_b s_non)) (b_one (x_ret (s_ix (is_ix rfl) (s_b (s_var (pv 0))) (s_b s_int)))) b_nil) <|
    b_one (x_ret (s_var (pv 2)))
theorem F_law_limit {P : Program} {w : World} {K : PySem.W.Frag} {mg : Str → Option Value} {base : Heap} (Z : Facts K mg) : ∃ fd, FunD K (d_law_limit).name (d_law_limit).qual (d_law_limit).params (d_law_limit).body (d_law_limit).scope ((d_law_limit).dvs K) ((d_law_limit).kws K) (He.fAd K (d_law_limit).at_) fd ∧ FnOk P w K mg base (L2.CX P w) 1 (He.fAd K (d_law_limit).at_) fd ps_law_limit (spG (tb K) 2 (fnS 4 m_law_limit)) := by
  obtain ⟨fd, F⟩ := Z.fn 20 d_law_limit rfl
  exact ⟨fd, F, fn_okD F sc_law_limit fun _ _ _ _ _ _ _ _ _ _ hr tk => w_law_limit Z hr tk⟩
theorem D_law_limit {P : Program} {w : World} {K : PySem.W.Frag} {mg : Str → Option Value} {base : Heap} (Z : Facts K mg) : Dn P w K mg base (tb K) "_law_limit" 2 [] 1 v_law_limit := by
  obtain ⟨fd, F, hF⟩ := F_law_limit (P := P) (w := w) (base := base) Z
  exact Dn.mk0 hF (Z.glo "_law_limit" (by decide +kernel)) F.kp (FunD.bindsN (ps := ps_law_limit) F (fun _ _ _ _ _ _ us hl => match us, hl with | [_, _], _ => rfl))
/-! ### _law_far -/
def m_law_far : SM :=
  seqS (ifS (tst (opM isF (opM ixF (varM 0) (cM (.int 1))) (cM .non))) (retS (cM (.int 1))) nilS) <|
    seqS (asgS (opM ixF (varM 0) (cM (.int 1))) (gTupM [2, 3])) <|
    retS (opM addF (cM (.int 1)) (callBM minF (acons (compM (seqSrc (callM 1 [] v_law_corners_of (acons (varM 1) anil))) (gOne 4) tyes (opM addF (opM mulF (opM subF (opM ixF (varM 4) (cM (.int 0))) (varM 2)) (opM subF (opM ixF (varM 4) (cM (.int 0))) (varM 2))) (opM mulF (opM subF (opM ixF (varM 4) (cM (.int 1))) (varM 3)) (opM subF (opM ixF (varM 4) (cM (.int 1))) (varM 3)))) [4]) anil)))
def v_law_far : List T → Hs → Res T := fnV 3 m_law_far
theorem w_law_far {P : Program} {w : World} {K : PySem.W.Frag} {mg : Str → Option Value} {base : Heap} {f : Addr} {cdv : Value} {A : Around} {outer : List Env} {s : Shared} {H : Hp} {E : XK} {ga : List V} {W : WX} {w0 : Wd} {as : List Sl} (Z : Facts K mg) (hr : Room 1 (A.deeper (PyProof.Rows.envOfC "_law_far" (defScope s_law_far) s.heap.objs.size f cdv)))
    (tk : Takes (cxOf (L2.CX P w) P w K mg base N_law_far "_law_far" (defScope s_law_far) f cdv A outer s H E) W) : PSs (cxOf (L2.CX P w) P w K mg base N_law_far "_law_far" (defScope s_law_far) f cdv A outer s H E) (defBody s_law_far) (tS ⟨tb K, ga, W, w0, as⟩ m_law_far) :=
  b_cons (x_if (st_cmp os_is (s_b (s_ix (is_ix rfl) (s_b (s_var (pv 0))) (s_b s_int))) (s_b s_non)) (b_one (x_ret s_int)) b_nil) <|
    b_cons (x_asg (gt_tup rfl [2, 3] rfl) (s_ix (is_ix rfl) (s_b (s_var (pv 0))) (s_b s_int)) (pg_tup rfl (pgs_cons (pg_name sc_law_far.nd rfl (by first | exact .inl rfl | exact .inr rfl)) (pgs_cons (pg_name sc_law_far.nd rfl (by first | exact .inl rfl | exact .inr rfl)) (pgs_nil))))) <|
    b_one (x_ret (s_op os_add (s_b s_int) (s_b (s_callB (cs_min rfl rfl) rfl (Z.free "min" (by decide +kernel)) bt_min (ab_cons (s_b (s_lc (own := [("_law_at", 4)]) rfl sc_law_far.nd (i_seq rfl (s_call ((D_law_corners_of Z).mono (by decide)) hr rfl tk (a_cons (s_var (pv 1)) a_nil))) (blk_of (N := N_law_far) (sc := defScope s_law_far) rfl rfl (by decide +kernel)) (gt_one 4) (fun _ _ _ _ _ => pg_name sc_law_far.nd rfl (by first | exact .inl rfl | exact .inr rfl)) (fun _ _ _ _ _ => ts_nil) (fun _ _ _ _ _ => s_op os_add (s_b (s_op os_mul (s_b (s_op os_sub (s_b (s_ix (is_ix rfl) (s_b (s_var (pv 4))) (s_b s_int))) (s_b (s_var (pv 2))))) (s_b (s_op os_sub (s_b (s_ix (is_ix rfl) (s_b (s_var (pv 4))) (s_b s_int))) (s_b (s_var (pv 2))))))) (s_b (s_op os_mul (s_b (s_op os_sub (s_b (s_ix (is_ix rfl) (s_b (s_var (pv 4))) (s_b s_int))) (s_b (s_var (pv 3))))) (s_b (s_op os_sub (s_b (s_ix (is_ix rfl) (s_b (s_var (pv 4))) (s_b s_int))) (s_b (s_var (pv 3)))))))))) ab_nil)))))
theorem F_law_far {P : Program} {w : World} {K : PySem.W.Frag} {mg : Str → Option Value} {base : Heap} (Z : Facts K mg) : ∃ fd, FunD K (d_law_far).name (d_law_far).qual (d_law_far).params (d_law_far).body (d_law_far).scope ((d_law_far).dvs K) ((d_law_far).kws K) (He.fAd K (d_law_far).at_) fd ∧ FnOk P w K mg base (L2.CX P w) 2 (He.fAd K (d_law_far).at_) fd ps_law_far (spG (tb K) 2 (fnS 3 m_law_far)) := by
  obtain ⟨fd, F⟩ := Z.fn 21 d_law_far rfl
  exact ⟨fd, F, fn_okD F sc_law_far fun _ _ _ _ _ _ _ _ _ _ hr tk => w_law_far Z hr tk⟩
theorem D_law_far {P : Program} {w : World} {K : PySem.W.Frag} {mg : Str → Option Value} {base : Heap} (Z : Facts K mg) : Dn P w K mg base (tb K) "_law_far" 2 [] 2 v_law_far := by
  obtain ⟨fd, F, hF⟩ := F_law_far (P := P) (w := w) (base := base) Z
  exact Dn.mk0 hF (Z.glo "_law_far" (by decide +kernel)) F.kp (FunD.bindsN (ps := ps_law_far) F (fun _ _ _ _ _ _ us hl => match us, hl with | [_, _], _ => rfl))
/-! ### _law_shape -/
def m_law_shape : SM :=
  seqS (asgS (callM 1 [] v_law_roots (acons (varM 1) anil)) (gOne 2)) <|
    seqS (asgS (opM ixF (varM 2) (callM 2 [] v_law_draw (acons (varM 0) (acons (callBM lenF (acons (varM 2) anil)) anil)))) (gOne 3)) <|
    seqS (forS (rng1Src (callM 2 [] v_law_draw (acons (varM 0) (acons (cM (.int 8)) anil)))) (gOne 4) (ifS (tst (opM isntF (callM 1 [] v_law_middle (acons (varM 3) anil)) (cM .non))) (asgS (opM ixF (callM 1 [] v_law_halves (acons (varM 3) anil)) (callM 2 [] v_law_draw (acons (varM 0) (acons (cM (.int 2)) anil)))) (gOne 3)) nilS)) <|
    retS (varM 3)
def v_law_shape : List T → Hs → Res T := fnV 3 m_law_shape
theorem w_law_shape {P : Program} {w : World} {K : PySem.W.Frag} {mg : Str → Option Value} {base : Heap} {f : Addr} {cdv : Value} {A : Around} {outer : List Env} {s : Shared} {H : Hp} {E : XK} {ga : List V} {W : WX} {w0 : Wd} {as : List Sl} (Z : Facts K mg) (hr : Room 2 (A.deeper (PyProof.Rows.envOfC "_law_shape" (defScope s_law_shape) s.heap.objs.size f cdv)))
    (tk : Takes (cxOf (L2.CX P w) P w K mg base N_law_shape "_law_shape" (defScope s_law_shape) f cdv A outer s H E) W) : PSs (cxOf (L2.CX P w) P w K mg base N_law_shape "_law_shape" (defScope s_law_shape) f cdv A outer s H E) (defBody s_law_shape) (tS ⟨tb K, ga, W, w0, as⟩ m_law_shape) :=
  b_cons (x_set sc_law_shape.nd rfl (by first | exact .inl rfl | exact .inr rfl) (s_call ((D_law_roots Z).mono (by decide)) hr rfl tk (a_cons (s_var (pv 1)) a_nil))) <|
    b_cons (x_set sc_law_shape.nd rfl (by first | exact .inl rfl | exact .inr rfl) (s_ix (is_ix rfl) (s_b (s_var (pv 2))) (s_b (s_call ((D_law_draw Z).mono (by decide)) hr rfl tk (a_cons (s_var (pv 0)) (a_cons (s_callB (cs_len rfl) rfl (Z.free "len" (by decide +kernel)) bt_len (ab_cons (s_b (s_var (pv 2))) ab_nil)) a_nil)))))) <|
    b_cons (x_for (passes_of rfl) rfl (gt_one 4) (i_rng1 rfl (Z.free "range" (by decide +kernel)) (s_b (s_call ((D_law_draw Z).mono (by decide)) hr rfl tk (a_cons (s_var (pv 0)) (a_cons s_int a_nil))))) (pg_name sc_law_shape.nd rfl (by first | exact .inl rfl | exact .inr rfl)) (b_one (x_if (st_cmp os_isnt (s_b (s_call ((D_law_middle Z).mono (by decide)) hr rfl tk (a_cons (s_var (pv 3)) a_nil))) (s_b s_non)) (b_one (x_set sc_law_shape.nd rfl (by first | exact .inl rfl | exact .inr rfl) (s_ix (is_ix rfl) (s_b (s_call ((D_law_halves Z).mono (by decide)) hr rfl tk (a_cons (s_var (pv 3)) a_nil))) (s_b (s_call ((D_law_draw Z).mono (by decide)) hr rfl tk (a_cons (s_var (pv 0)) (a_cons s_int a_nil))))))) b_nil))) <|
    b_one (x_ret (s_var (pv 3)))
theorem F_law_shape {P : Program} {w : World} {K : PySem.W.Frag} {mg : Str → Option Value} {base : Heap} (Z : Facts K mg) : ∃ fd, FunD K (d_law_shape).name (d_law_shape).qual (d_law_shape).params (d_law_shape).body (d_law_shape).scope ((d_law_shape).dvs K) ((d_law_shape).kws K) (He.fAd K (d_law_shape).at_) fd ∧ FnOk P w K mg base (L2.CX P w) 3 (He.fAd K (d_law_shape).at_) fd ps_law_shape (spG (tb K) 2 (fnS 3 m_law_shape)) := by
  obtain ⟨fd, F⟩ := Z.fn 22 d_law_shape rfl
  exact ⟨fd, F, fn_okD F sc_law_shape fun _ _ _ _ _ _ _ _ _ _ hr tk => w_law_shape Z hr tk⟩
theorem D_law_shape {P : Program} {w : World} {K : PySem.W.Frag} {mg : Str → Option Value} {base : Heap} (Z : Facts K mg) : Dn P w K mg base (tb K) "_law_shape" 2 [] 3 v_law_shape := by
  obtain ⟨fd, F, hF⟩ := F_law_shape (P := P) (w := w) (base := base) Z
  exact Dn.mk0 hF (Z.glo "_law_shape" (by decide +kernel)) F.kp (FunD.bindsN (ps := ps_law_shape) F (fun _ _ _ _ _ _ us hl => match us, hl with | [_, _], _ => rfl))
/-! ### _law_view -/
def m_law_view : SM :=
  seqS (asgS (varM 1) (gTupM [2, 3, 4])) <|
    seqS (ifS (andT (tst (opM eqF (opM ixF (varM 2) (cM (.int 1))) (cM (.int 1)))) (tst (opM eqF (callM 2 [] v_law_draw (acons (varM 0) (acons (cM (.int 2)) anil))) (cM (.int 0))))) (asgS (opM ixF (varM 2) (cM (.int 0))) (gOne 2)) nilS) <|
    seqS (ifS (andT (tst (opM isF (varM 3) (cM .non))) (tst (opM eqF (callBM lenF (acons (varM 4) anil)) (cM (.int 0))))) (retS (mkM 0 4 [.non, .tup []] (fnS 1 m_View___init__) (acons (varM 2) anil))) nilS) <|
    seqS (ifS (tst (opM isF (varM 3) (cM .non))) (retS (mkKM 0 4 1 1 (fun ts us => ts ++ ([.non] ++ us)) (fnS 1 m_View___init__) (acons (varM 2) anil) (acons (callBM listF (acons (varM 4) anil)) anil))) nilS) <|
    seqS (ifS (tst (opM eqF (callBM lenF (acons (varM 4) anil)) (cM (.int 0)))) (retS (mkKM 0 4 1 1 (fun ts us => ts ++ (us ++ [.tup []])) (fnS 1 m_View___init__) (acons (varM 2) anil) (acons (varM 3) anil))) nilS) <|
    retS (mkKM 0 4 1 2 (fun ts us => ts ++ us.reverse) (fnS 1 m_View___init__) (acons (varM 2) anil) (acons (callBM tupleF (acons (varM 4) anil)) (acons (varM 3) anil)))
def v_law_view : List T → Hs → Res T := fnV 3 m_law_view
theorem w_law_view {P : Program} {w : World} {K : PySem.W.Frag} {mg : Str → Option Value} {base : Heap} {f : Addr} {cdv : Value} {A : Around} {outer : List Env} {s : Shared} {H : Hp} {E : XK} {ga : List V} {W : WX} {w0 : Wd} {as : List Sl} (Z : Facts K mg) (hr : Room 5 (A.deeper (PyProof.Rows.envOfC "_law_view" (defScope s_law_view) s.heap.objs.size f cdv)))
    (tk : Takes (cxOf (L2.CX P w) P w K mg base N_law_view "_law_view" (defScope s_law_view) f cdv A outer s H E) W) : PSs (cxOf (L2.CX P w) P w K mg base N_law_view "_law_view" (defScope s_law_view) f cdv A outer s H E) (defBody s_law_view) (tS ⟨tb K, ga, W, w0, as⟩ m_law_view) :=
  b_cons (x_asg (gt_tup rfl [2, 3, 4] rfl) (s_var (pv 1)) (pg_tup rfl (pgs_cons (pg_name sc_law_view.nd rfl (by first | exact .inl rfl | exact .inr rfl)) (pgs_cons (pg_name sc_law_view.nd rfl (by first | exact .inl rfl | exact .inr rfl)) (pgs_cons (pg_name sc_law_view.nd rfl (by first | exact .inl rfl | exact .inr rfl)) (pgs_nil)))))) <|
    b_cons (x_if (st_bool (st_and (st_cmp (os_eq hr rfl) (s_b (s_ix (is_ix rfl) (s_b (s_var (pv 2))) (s_b s_int))) (s_b s_int)) (st_and1 (st_cmp (os_eq hr rfl) (s_b (s_call ((D_law_draw Z).mono (by decide)) hr rfl tk (a_cons (s_var (pv 0)) (a_cons s_int a_nil)))) (s_b s_int))))) (b_one (x_set sc_law_view.nd rfl (by first | exact .inl rfl | exact .inr rfl) (s_ix (is_ix rfl) (s_b (s_var (pv 2))) (s_b s_int)))) b_nil) <|
    b_cons (x_if (st_bool (st_and (st_cmp os_is (s_b (s_var (pv 3))) (s_b s_non)) (st_and1 (st_cmp (os_eq hr rfl) (s_b (s_callB (cs_len rfl) rfl (Z.free "len" (by decide +kernel)) bt_len (ab_cons (s_b (s_var (pv 4))) ab_nil))) (s_b s_int))))) (b_one (x_ret (s_make ((Kn_View Z).mono (by decide)) hr rfl tk (a_cons (s_var (pv 2)) a_nil)))) b_nil) <|
    b_cons (x_if (st_cmp os_is (s_b (s_var (pv 3))) (s_b s_non)) (b_one (x_ret (s_makeK ((Kb_View Z).mono (by decide)) hr rfl tk (a_cons (s_var (pv 2)) a_nil) (k_cons (s_callTy (cs_list rfl) rfl (Z.free "list" (by decide +kernel)) bt_list (ab_cons (s_b (s_var (pv 4))) ab_nil)) k_nil)))) b_nil) <|
    b_cons (x_if (st_cmp (os_eq hr rfl) (s_b (s_callB (cs_len rfl) rfl (Z.free "len" (by decide +kernel)) bt_len (ab_cons (s_b (s_var (pv 4))) ab_nil))) (s_b s_int)) (b_one (x_ret (s_makeK ((Ke_View Z).mono (by decide)) hr rfl tk (a_cons (s_var (pv 2)) a_nil) (k_cons (s_var (pv 3)) k_nil)))) b_nil) <|
    b_one (x_ret (s_makeK ((Kbe_View Z).mono (by decide)) hr rfl tk (a_cons (s_var (pv 2)) a_nil) (k_cons (s_callTy cs_tuple rfl (Z.free "tuple" (by decide +kernel)) bt_tuple (ab_cons (s_b (s_var (pv 4))) ab_nil)) (k_cons (s_var (pv 3)) k_nil))))
theorem F_law_view {P : Program} {w : World} {K : PySem.W.Frag} {mg : Str → Option Value} {base : Heap} (Z : Facts K mg) : ∃ fd, FunD K (d_law_view).name (d_law_view).qual (d_law_view).params (d_law_view).body (d_law_view).scope ((d_law_view).dvs K) ((d_law_view).kws K) (He.fAd K (d_law_view).at_) fd ∧ FnOk P w K mg base (L2.CX P w) 6 (He.fAd K (d_law_view).at_) fd ps_law_view (spG (tb K) 2 (fnS 3 m_law_view)) := by
  obtain ⟨fd, F⟩ := Z.fn 23 d_law_view rfl
  exact ⟨fd, F, fn_okD F sc_law_view fun _ _ _ _ _ _ _ _ _ _ hr tk => w_law_view Z hr tk⟩
theorem D_law_view {P : Program} {w : World} {K : PySem.W.Frag} {mg : Str → Option Value} {base : Heap} (Z : Facts K mg) : Dn P w K mg base (tb K) "_law_view" 2 [] 6 v_law_view := by
  obtain ⟨fd, F, hF⟩ := F_law_view (P := P) (w := w) (base := base) Z
  exact Dn.mk0 hF (Z.glo "_law_view" (by decide +kernel)) F.kp (FunD.bindsN (ps := ps_law_view) F (fun _ _ _ _ _ _ us hl => match us, hl with | [_, _], _ => rfl))
/-! ### _law_holds -/
def m_law_holds : SM :=
  seqS (asgS (andM (callM 2 [] (v_law_same 3) (acons (fldM 0 "tolerance" (varM 0)) (acons (opM ixF (varM 1) (cM (.int 0))) anil))) (callM 2 [] (v_law_same 3) (acons (fldM 0 "eye" (varM 0)) (acons (opM ixF (varM 1) (cM (.int 1))) anil)))) (gOne 3)) <|
    seqS (forS (seqSrc (varM 2)) (gOne 4) (seqS (asgS (andM (varM 3) (callM 2 [] (v_law_same 3) (acons (methM 0 "limit" 2 [] v_View_limit (varM 0) (acons (varM 4) anil)) (acons (callM 2 [] v_law_limit (acons (varM 1) (acons (varM 4) anil))) anil)))) (gOne 3)) <|
    asgS (andM (varM 3) (callM 2 [] (v_law_same 3) (acons (methM 0 "far" 2 [] v_View_far (varM 0) (acons (varM 4) anil)) (acons (callM 2 [] v_law_far (acons (varM 1) (acons (varM 4) anil))) anil)))) (gOne 3))) <|
    retS (varM 3)
def v_law_holds : List T → Hs → Res T := fnV 2 m_law_holds
theorem w_law_holds {P : Program} {w : World} {K : PySem.W.Frag} {mg : Str → Option Value} {base : Heap} {f : Addr} {cdv : Value} {A : Around} {outer : List Env} {s : Shared} {H : Hp} {E : XK} {ga : List V} {W : WX} {w0 : Wd} {as : List Sl} (Z : Facts K mg) (hr : Room 5 (A.deeper (PyProof.Rows.envOfC "_law_holds" (defScope s_law_holds) s.heap.objs.size f cdv)))
    (tk : Takes (cxOf (L2.CX P w) P w K mg base N_law_holds "_law_holds" (defScope s_law_holds) f cdv A outer s H E) W) : PSs (cxOf (L2.CX P w) P w K mg base N_law_holds "_law_holds" (defScope s_law_holds) f cdv A outer s H E) (defBody s_law_holds) (tS ⟨tb K, ga, W, w0, as⟩ m_law_holds) :=
  b_cons (x_set sc_law_holds.nd rfl (by first | exact .inl rfl | exact .inr rfl) (s_and (s_call ((D_law_same Z 3).mono (by decide)) hr rfl tk (a_cons (s_fld (c := 0) (He.cls_ok (x := "View") (Z.fact 0 rfl)) (He.noat_ok (x := "View") (Z.fact 1 rfl)) (s_b (s_var (pv 0)))) (a_cons (s_ix (is_ix rfl) (s_b (s_var (pv 1))) (s_b s_int)) a_nil))) (s_one (s_call ((D_law_same Z 3).mono (by decide)) hr rfl tk (a_cons (s_fld (c := 0) (He.cls_ok (x := "View") (Z.fact 0 rfl)) (He.noat_ok (x := "View") (Z.fact 2 rfl)) (s_b (s_var (pv 0)))) (a_cons (s_ix (is_ix rfl) (s_b (s_var (pv 1))) (s_b s_int)) a_nil)))))) <|
    b_cons (x_for (passes_of rfl) rfl (gt_one 4) (i_seq rfl (s_var (pv 2))) (pg_name sc_law_holds.nd rfl (by first | exact .inl rfl | exact .inr rfl)) (b_cons (x_set sc_law_holds.nd rfl (by first | exact .inl rfl | exact .inr rfl) (s_and (s_var (pv 3)) (s_one (s_call ((D_law_same Z 3).mono (by decide)) hr rfl tk (a_cons (s_meth ((M_View_limit Z).mono (by decide)) hr tk (s_var (pv 0)) (a_cons (s_var (pv 4)) a_nil)) (a_cons (s_call ((D_law_limit Z).mono (by decide)) hr rfl tk (a_cons (s_var (pv 1)) (a_cons (s_var (pv 4)) a_nil))) a_nil)))))) <|
    b_one (x_set sc_law_holds.nd rfl (by first | exact .inl rfl | exact .inr rfl) (s_and (s_var (pv 3)) (s_one (s_call ((D_law_same Z 3).mono (by decide)) hr rfl tk (a_cons (s_meth ((M_View_far Z).mono (by decide)) hr tk (s_var (pv 0)) (a_cons (s_var (pv 4)) a_nil)) (a_cons (s_call ((D_law_far Z).mono (by decide)) hr rfl tk (a_cons (s_var (pv 1)) (a_cons (s_var (pv 4)) a_nil))) a_nil)))))))) <|
    b_one (x_ret (s_var (pv 3)))
theorem F_law_holds {P : Program} {w : World} {K : PySem.W.Frag} {mg : Str → Option Value} {base : Heap} (Z : Facts K mg) : ∃ fd, FunD K (d_law_holds).name (d_law_holds).qual (d_law_holds).params (d_law_holds).body (d_law_holds).scope ((d_law_holds).dvs K) ((d_law_holds).kws K) (He.fAd K (d_law_holds).at_) fd ∧ FnOk P w K mg base (L2.CX P w) 6 (He.fAd K (d_law_holds).at_) fd ps_law_holds (spG (tb K) 3 (fnS 2 m_law_holds)) := by
  obtain ⟨fd, F⟩ := Z.fn 24 d_law_holds rfl
  exact ⟨fd, F, fn_okD F sc_law_holds fun _ _ _ _ _ _ _ _ _ _ hr tk => w_law_holds Z hr tk⟩
theorem D_law_holds {P : Program} {w : World} {K : PySem.W.Frag} {mg : Str → Option Value} {base : Heap} (Z : Facts K mg) : Dn P w K mg base (tb K) "_law_holds" 3 [] 6 v_law_holds := by
  obtain ⟨fd, F, hF⟩ := F_law_holds (P := P) (w := w) (base := base) Z
  exact Dn.mk0 hF (Z.glo "_law_holds" (by decide +kernel)) F.kp (FunD.bindsN (ps := ps_law_holds) F (fun _ _ _ _ _ _ us hl => match us, hl with | [_, _, _], _ => rfl))
/-! ### law -/
def m_law : SM :=
  seqS (asgS (callM 1 [] v_law_bag (acons (varM 0) anil)) (gOne 1)) <|
    seqS (asgS (callM 1 [] v_law_plan (acons (varM 1) anil)) (gOne 2)) <|
    seqS (asgS (callM 2 [] v_law_sight (acons (varM 1) (acons (varM 2) anil))) (gOne 3)) <|
    seqS (asgS (compM (rng1Src (cM (.int 6))) (gOne 10) tyes (callM 2 [] v_law_shape (acons (varM 1) (acons (varM 2) anil))) [10]) (gOne 4)) <|
    seqS (asgS (callM 3 [] v_law_holds (acons (callM 2 [] v_law_view (acons (varM 1) (acons (varM 3) anil))) (acons (varM 3) (acons (varM 4) anil)))) (gOne 5)) <|
    seqS (asgS (allocM (callBM listF (acons (opM ixF (varM 3) (cM (.int 2))) anil))) (gOne 6)) <|
    seqS (asgS (mkKM 0 4 1 2 (fun ts us => ts ++ us) (fnS 1 m_View___init__) (acons (opM ixF (varM 3) (cM (.int 0))) anil) (acons (opM ixF (varM 3) (cM (.int 1))) (acons (varM 6) anil))) (gOne 7)) <|
    seqS (asgS (andM (varM 5) (opM eqF (varM 6) (opM ixF (varM 3) (cM (.int 2))))) (gOne 5)) <|
    seqS (appC 6 (tupM (acons (opM subF (cM (.int 0)) (cM (.int 9))) (acons (opM subF (cM (.int 0)) (cM (.int 9))) (acons (cM (.int 99)) (acons (cM (.int 99)) (acons (tupM (acons (cM (.int 0)) (acons (cM (.int 1)) anil))) anil))))))) <|
    seqS (revC 6) <|
    seqS (asgS (andM (varM 5) (callM 3 [] v_law_holds (acons (varM 7) (acons (varM 3) (acons (varM 4) anil))))) (gOne 5)) <|
    seqS (asgS (compM (rng1Src (cM (.int 5))) (gOne 10) tyes (opM ixF (callM 2 [] v_law_sight (acons (varM 1) (acons (varM 2) anil))) (cM (.int 2))) [10]) (gOne 8)) <|
    seqS (asgS (callBM sumLF (acons (varM 8) (acons (lstM anil) anil))) (gOne 8)) <|
    seqS (asgS (opM addF (varM 8) (compM (rng1Src (cM (.int 8))) (gOne 10) tyes (tupM (acons (opM subF (varM 10) (cM (.int 1))) (acons (opM subF (varM 10) (cM (.int 1))) (acons (varM 10) (acons (varM 10) (acons (tupM (acons (opM subF (cM (.int 9)) (varM 10)) (acons (cM (.int 1)) anil))) anil)))))) [10])) (gOne 8)) <|
    seqS (asgS (tupM (acons (opM ixF (varM 3) (cM (.int 0))) (acons (opM ixF (varM 3) (cM (.int 1))) (acons (varM 8) anil)))) (gOne 3)) <|
    seqS (asgS (mkKM 0 4 1 2 (fun ts us => ts ++ us.reverse) (fnS 1 m_View___init__) (acons (opM ixF (varM 3) (cM (.int 0))) anil) (acons (varM 8) (acons (opM ixF (varM 3) (cM (.int 1))) anil))) (gOne 7)) <|
    seqS (asgS (andM (varM 5) (callM 3 [] v_law_holds (acons (varM 7) (acons (varM 3) (acons (varM 4) anil))))) (gOne 5)) <|
    seqS (asgS (mkKM 0 4 1 1 (fun ts us => ts ++ ([.non] ++ us)) (fnS 1 m_View___init__) (acons (cM (.int 7)) anil) (acons (lstM (acons (tupM (acons (cM (.int 0)) (acons (cM (.int 0)) (acons (cM (.int 99)) (acons (cM (.int 99)) (acons (cM (.int 3)) anil)))))) anil)) anil)) (gOne 9)) <|
    retS (andM (varM 5) (andM (callM 2 [] (v_law_same 3) (acons (methM 0 "limit" 2 [] v_View_limit (varM 9) (acons (opM ixF (varM 4) (cM (.int 0))) anil)) (acons (tupM (acons (cM (.int 3)) (acons (cM (.int 1)) anil))) anil))) (callM 2 [] (v_law_same 3) (acons (fldM 0 "tolerance" (varM 9)) (acons (tupM (acons (cM (.int 7)) (acons (cM (.int 1)) anil))) anil)))))
def v_law : List T → Hs → Res T := fnV 10 m_law
theorem w_law {P : Program} {w : World} {K : PySem.W.Frag} {mg : Str → Option Value} {base : Heap} {f : Addr} {cdv : Value} {A : Around} {outer : List Env} {s : Shared} {H : Hp} {E : XK} {ga : List V} {W : WX} {w0 : Wd} {as : List Sl} (Z : Facts K mg) (hr : Room 6 (A.deeper (PyProof.Rows.envOfC "law" (defScope s_law) s.heap.objs.size f cdv)))
    (tk : Takes (cxOf (L2.CX P w) P w K mg base N_law "law" (defScope s_law) f cdv A outer s H E) W) : PSs (cxOf (L2.CX P w) P w K mg base N_law "law" (defScope s_law) f cdv A outer s H E) (defBody s_law) (tS ⟨tb K, ga, W, w0, as⟩ m_law) :=
  b_cons (x_set sc_law.nd rfl (by first | exact .inl rfl | exact .inr rfl) (s_call ((D_law_bag Z).mono (by decide)) hr rfl tk (a_cons (s_var (pv 0)) a_nil))) <|
    b_cons (x_set sc_law.nd rfl (by first | exact .inl rfl | exact .inr rfl) (s_call ((D_law_plan Z).mono (by decide)) hr rfl tk (a_cons (s_var (pv 1)) a_nil))) <|
    b_cons (x_set sc_law.nd rfl (by first | exact .inl rfl | exact .inr rfl) (s_call ((D_law_sight Z).mono (by decide)) hr rfl tk (a_cons (s_var (pv 1)) (a_cons (s_var (pv 2)) a_nil)))) <|
    b_cons (x_setLc (own := [("_law_k", 10)]) rfl sc_law.nd rfl rfl rfl (i_rng1 rfl (Z.free "range" (by decide +kernel)) (s_b s_int)) (blk_of (N := N_law) (sc := defScope s_law) rfl rfl (by decide +kernel)) (gt_one 10) (fun _ _ _ _ _ => pg_name sc_law.nd rfl (by first | exact .inl rfl | exact .inr rfl)) (fun _ _ _ _ _ => ts_nil) (fun _ _ _ _ _ => s_call ((D_law_shape Z).mono (by decide)) hr rfl takes0 (a_cons (s_var (pv 1)) (a_cons (s_var (pv 2)) a_nil)))) <|
    b_cons (x_set sc_law.nd rfl (by first | exact .inl rfl | exact .inr rfl) (s_call ((D_law_holds Z).mono (by decide)) hr rfl tk (a_cons (s_call ((D_law_view Z).mono (by decide)) hr rfl tk (a_cons (s_var (pv 1)) (a_cons (s_var (pv 3)) a_nil))) (a_cons (s_var (pv 3)) (a_cons (s_var (pv 4)) a_nil))))) <|
    b_cons (x_set sc_law.nd rfl (by first | exact .inl rfl | exact .inr rfl) (s_alloc (f_list rfl rfl (Z.free "list" (by decide +kernel)) bt_list (s_b (s_ix (is_ix rfl) (s_b (s_var (pv 3))) (s_b s_int)))))) <|
    b_cons (x_set sc_law.nd rfl (by first | exact .inl rfl | exact .inr rfl) (s_makeK ((Keb_View Z).mono (by decide)) hr rfl tk (a_cons (s_ix (is_ix rfl) (s_b (s_var (pv 3))) (s_b s_int)) a_nil) (k_cons (s_ix (is_ix rfl) (s_b (s_var (pv 3))) (s_b s_int)) (k_cons (s_var (pv 6)) k_nil)))) <|
    b_cons (x_set sc_law.nd rfl (by first | exact .inl rfl | exact .inr rfl) (s_and (s_var (pv 5)) (s_one (s_cmp (os_eq hr rfl) (s_b (s_var (pv 6))) (s_b (s_ix (is_ix rfl) (s_b (s_var (pv 3))) (s_b s_int))))))) <|
    b_cons (x_appC (hpe := fun hm h => pe_bm PySem.F.plainAttrs_list PySem.F.slot_list_append PySem.F.type_list_append hm (pv 6) h) (pv 6) (s_tup (a_cons (s_op os_sub (s_b s_int) (s_b s_int)) (a_cons (s_op os_sub (s_b s_int) (s_b s_int)) (a_cons s_int (a_cons s_int (a_cons (s_tup (a_cons s_int (a_cons s_int a_nil))) a_nil))))))) <|
    b_cons (x_revC (hpe := fun hm => pe_bm0 PySem.F.plainAttrs_list PySem.F.slot_list_reverse PySem.F.type_list_reverse hm (pv 6)) (pv 6)) <|
    b_cons (x_set sc_law.nd rfl (by first | exact .inl rfl | exact .inr rfl) (s_and (s_var (pv 5)) (s_one (s_call ((D_law_holds Z).mono (by decide)) hr rfl tk (a_cons (s_var (pv 7)) (a_cons (s_var (pv 3)) (a_cons (s_var (pv 4)) a_nil))))))) <|
    b_cons (x_setLc (own := [("_law_k", 10)]) rfl sc_law.nd rfl rfl rfl (i_rng1 rfl (Z.free "range" (by decide +kernel)) (s_b s_int)) (blk_of (N := N_law) (sc := defScope s_law) rfl rfl (by decide +kernel)) (gt_one 10) (fun _ _ _ _ _ => pg_name sc_law.nd rfl (by first | exact .inl rfl | exact .inr rfl)) (fun _ _ _ _ _ => ts_nil) (fun _ _ _ _ _ => s_ix (is_ix rfl) (s_b (s_call ((D_law_sight Z).mono (by decide)) hr rfl takes0 (a_cons (s_var (pv 1)) (a_cons (s_var (pv 2)) a_nil)))) (s_b s_int))) <|
    b_cons (x_set sc_law.nd rfl (by first | exact .inl rfl | exact .inr rfl) (s_callB (cs_sumL rfl rfl) rfl (Z.free "sum" (by decide +kernel)) bt_sum (ab_cons (s_b (s_var (pv 8))) (ab_cons (s_b (s_lst a_nil)) ab_nil)))) <|
    b_cons (x_set sc_law.nd rfl (by first | exact .inl rfl | exact .inr rfl) (s_op os_add (s_b (s_var (pv 8))) (s_b (s_lc (own := [("_law_k", 10)]) rfl sc_law.nd (i_rng1 rfl (Z.free "range" (by decide +kernel)) (s_b s_int)) (blk_of (N := N_law) (sc := defScope s_law) rfl rfl (by decide +kernel)) (gt_one 10) (fun _ _ _ _ _ => pg_name sc_law.nd rfl (by first | exact .inl rfl | exact .inr rfl)) (fun _ _ _ _ _ => ts_nil) (fun _ _ _ _ _ => s_tup (a_cons (s_op os_sub (s_b (s_var (pv 10))) (s_b s_int)) (a_cons (s_op os_sub (s_b (s_var (pv 10))) (s_b s_int)) (a_cons (s_var (pv 10)) (a_cons (s_var (pv 10)) (a_cons (s_tup (a_cons (s_op os_sub (s_b s_int) (s_b (s_var (pv 10)))) (a_cons s_int a_nil))) a_nil)))))))))) <|
    b_cons (x_set sc_law.nd rfl (by first | exact .inl rfl | exact .inr rfl) (s_tup (a_cons (s_ix (is_ix rfl) (s_b (s_var (pv 3))) (s_b s_int)) (a_cons (s_ix (is_ix rfl) (s_b (s_var (pv 3))) (s_b s_int)) (a_cons (s_var (pv 8)) a_nil))))) <|
    b_cons (x_set sc_law.nd rfl (by first | exact .inl rfl | exact .inr rfl) (s_makeK ((Kbe_View Z).mono (by decide)) hr rfl tk (a_cons (s_ix (is_ix rfl) (s_b (s_var (pv 3))) (s_b s_int)) a_nil) (k_cons (s_var (pv 8)) (k_cons (s_ix (is_ix rfl) (s_b (s_var (pv 3))) (s_b s_int)) k_nil)))) <|
    b_cons (x_set sc_law.nd rfl (by first | exact .inl rfl | exact .inr rfl) (s_and (s_var (pv 5)) (s_one (s_call ((D_law_holds Z).mono (by decide)) hr rfl tk (a_cons (s_var (pv 7)) (a_cons (s_var (pv 3)) (a_cons (s_var (pv 4)) a_nil))))))) <|
    b_cons (x_set sc_law.nd rfl (by first | exact .inl rfl | exact .inr rfl) (s_makeK ((Kb_View Z).mono (by decide)) hr rfl tk (a_cons s_int a_nil) (k_cons (s_lst (a_cons (s_tup (a_cons s_int (a_cons s_int (a_cons s_int (a_cons s_int (a_cons s_int a_nil)))))) a_nil)) k_nil))) <|
    b_one (x_ret (s_and (s_var (pv 5)) (s_and (s_call ((D_law_same Z 3).mono (by decide)) hr rfl tk (a_cons (s_meth ((M_View_limit Z).mono (by decide)) hr tk (s_var (pv 9)) (a_cons (s_ix (is_ix rfl) (s_b (s_var (pv 4))) (s_b s_int)) a_nil)) (a_cons (s_tup (a_cons s_int (a_cons s_int a_nil))) a_nil))) (s_one (s_call ((D_law_same Z 3).mono (by decide)) hr rfl tk (a_cons (s_fld (c := 0) (He.cls_ok (x := "View") (Z.fact 0 rfl)) (He.noat_ok (x := "View") (Z.fact 1 rfl)) (s_b (s_var (pv 9)))) (a_cons (s_tup (a_cons s_int (a_cons s_int a_nil))) a_nil)))))))
theorem F_law {P : Program} {w : World} {K : PySem.W.Frag} {mg : Str → Option Value} {base : Heap} (Z : Facts K mg) : ∃ fd, FunD K (d_law).name (d_law).qual (d_law).params (d_law).body (d_law).scope ((d_law).dvs K) ((d_law).kws K) (He.fAd K (d_law).at_) fd ∧ FnOk P w K mg base (L2.CX P w) 7 (He.fAd K (d_law).at_) fd ps_law (spG (tb K) 1 (fnS 10 m_law)) := by
  obtain ⟨fd, F⟩ := Z.fn 25 d_law rfl
  exact ⟨fd, F, fn_okD F sc_law fun _ _ _ _ _ _ _ _ _ _ hr tk => w_law Z hr tk⟩
theorem D_law {P : Program} {w : World} {K : PySem.W.Frag} {mg : Str → Option Value} {base : Heap} (Z : Facts K mg) : Dn P w K mg base (tb K) "law" 1 [] 7 v_law := by
  obtain ⟨fd, F, hF⟩ := F_law (P := P) (w := w) (base := base) Z
  exact Dn.mk0 hF (Z.glo "law" (by decide +kernel)) F.kp (FunD.bindsN (ps := ps_law) F (fun _ _ _ _ _ _ us hl => match us, hl with | [_], _ => rfl))
end K48
namespace K48
open PySem L2 Y
structure Tol where
  n : Int
  d : Int
def Tol.ok (t : Tol) : Prop := 0 ≤ t.n ∧ t.n < 2000 ∧ 1 ≤ t.d ∧ t.d < 2000
def tolT (t : Tol) : T := .tup [.int t.n, .int t.d]
structure Box where
  x : Int
  y : Int
  xx : Int
  yy : Int
  t : Tol
def boxT (b : Box) : T := .tup [.int b.x, .int b.y, .int b.xx, .int b.yy, tolT b.t]
def Box.nrm (b : Box) : Box := ⟨min b.x b.xx, min b.y b.yy, max b.x b.xx, max b.y b.yy, b.t⟩
structure Sh where
  a : Int
  b : Int
  c : Int
  d : Int
  e : Int
  f : Int
def shT (s : Sh) : T := .tup [.int s.a, .int s.b, .int s.c, .int s.d, .int s.e, .int s.f]
def inB (i : Int) : Prop := 0 ≤ i ∧ i ≤ 64
def Sh.ok (s : Sh) : Prop := inB s.a ∧ inB s.b ∧ inB s.c ∧ inB s.d ∧ inB s.e ∧ inB s.f
theorem draw_eq : v_law_draw = Y.v_law_draw := rfl
theorem plan_eq : v_law_plan = Y.v_law_plan := rfl
theorem bag_eq : v_law_bag = Y.v_law_bag := rfl
theorem whole_int (i : Int) (h : Hs) : v_is_whole [.int i] h = .ok (.bl true) h := by
  unfold v_is_whole m_is_whole
  simp [kdOf, Kd.is]
theorem whole_tup (xs : List T) (h : Hs) : v_is_whole [.tup xs] h = .ok (.bl false) h := by
  unfold v_is_whole m_is_whole
  simp [kdOf, Kd.is]
theorem less_spec (s t : Tol) (hs : s.ok) (ht : t.ok) (h : Hs) : v_less [tolT s, tolT t] h = .ok (.bl (decide (s.n * t.d < t.n * s.d))) h := by
  obtain ⟨_, _, _, _⟩ := hs
  obtain ⟨_, _, _, _⟩ := ht
  have s1 : smallI s.n = true := smallI_of (by omega) (by omega)
  have s2 : smallI t.n = true := smallI_of (by omega) (by omega)
  unfold v_less m_less tolT
  simp [s1, s2]
theorem share_int (i : Int) (h0 : 0 ≤ i) (h : Hs) : v_as_share [.int i] h = .ok (.tup [.int i, .int 1]) h := by
  unfold v_as_share m_as_share
  simp [whole_int, Int.not_lt.mpr h0]
theorem share_tol (t : Tol) (ht : t.ok) (h : Hs) : v_as_share [tolT t] h = .ok (tolT t) h := by
  obtain ⟨h0, _, _, _⟩ := ht
  unfold v_as_share m_as_share tolT
  simp [whole_tup, Int.not_lt.mpr h0]
theorem box_spec (b : Box) (hb : b.t.ok) (h : Hs) : v_as_box [boxT b] h = .ok (boxT b.nrm) h := by
  unfold v_as_box m_as_box boxT Box.nrm
  simp [share_tol b.t hb]
def touch (b : Box) (s : Sh) : Bool := decide (b.x ≤ max (max s.a s.c) s.e) && (decide (min (min s.a s.c) s.e ≤ b.xx) && (decide (b.y ≤ max (max s.b s.d) s.f) && decide (min (min s.b s.d) s.f ≤ b.yy)))
theorem touches_spec (b : Box) (s : Sh) (h : Hs) : v_touches [boxT b, shT s] h = .ok (.bl (touch b s)) h := by
  unfold v_touches m_touches boxT shT touch
  simp [minL, maxL]
  by_cases h1 : b.x ≤ max s.a (max s.c s.e) <;> by_cases h2 : min s.a (min s.c s.e) ≤ b.xx <;> by_cases h3 : b.y ≤ max s.b (max s.d s.f) <;> simp [h1, h2, h3]
/-! ### the view -/
def ks : List Str := ["tolerance", "eye", "boxes"]
def viewT (t : Tol) (eye : T) (bs : List Box) : T := .ins 0 ks [tolT t, eye, .lst (bs.map boxT)]
theorem comp_boxes (rd : Rdr) (h : Hs) (a b c d : Sl) (bs : List Box) (hb : ∀ b ∈ bs, b.t.ok) (hrd : rd h = some (bs.map boxT)) :
    compL rd (gOne 4) tyes (callM 1 [] v_as_box (acons (varM 4) anil)) [a, b, c, d, .no] bs.length 0 [] h = .ok (.lst (bs.map fun b => boxT b.nrm)) h :=
  comp_map bs boxT (fun b => boxT b.nrm) hrd fun x hx => by simp [box_spec x (hb x hx)]
theorem pf1 (t : T) : putFT "tolerance" t [] [] = ((["tolerance"] : List Str), [t]) := rfl
theorem pf2 (t u : T) : putFT "eye" u ["tolerance"] [t] = ((["tolerance", "eye"] : List Str), [t, u]) := rfl
theorem pf3 (t u v : T) : putFT "boxes" v ["tolerance", "eye"] [t, u] = ((["tolerance", "eye", "boxes"] : List Str), [t, u, v]) := rfl
theorem init_spec (t : Tol) (tt eye bx : T) (bs : List Box) (hb : ∀ b ∈ bs, b.t.ok) (hl : bs.length ≤ 1000) (h : Hs) (ht : v_as_share [tt] h = .ok (tolT t) h) (hx : seqOf h bx = some (bs.map boxT)) :
    mkF 0 4 (fnS 1 m_View___init__) [tt, eye, bx] h = .ok (viewT t eye (bs.map Box.nrm)) h := by
  have hc := comp_boxes (fun h' => seqOf h' bx) h (Sl.io (T.ins 0 ["tolerance", "eye"] [tolT t, eye])) (Sl.val tt) (Sl.val eye) (Sl.val bx) bs hb hx
  have hlen : bs.length < 16777216 := by omega
  have hg : (boxT ∘ Box.nrm) = fun b => boxT b.nrm := rfl
  unfold m_View___init__ viewT ks
  simp [ht, hx, pf1, pf2, pf3, hlen, hc, hg]
end K48
namespace K48
open PySem L2 Y
def optT : Option Tol → T
  | none => .non
  | some t => tolT t
def lim1 (s : Sh) (best : Option Tol) (b : Box) : Option Tol := if touch b.nrm s = true then (match best with
  | none => some b.t
  | some r => if b.t.n * r.d < r.n * b.t.d then some b.t else best) else best
def limR (t : Tol) (bs : List Box) (s : Sh) : Tol := match bs.foldl (lim1 s) none with
  | none => t
  | some r => r
theorem lim_ok (s : Sh) : ∀ (bs : List Box) (best : Option Tol), (∀ b ∈ bs, b.t.ok) → (∀ r, best = some r → r.ok) → ∀ r, bs.foldl (lim1 s) best = some r → r.ok
  | [], best, _, h, r, e => h r e
  | b :: bs, best, hb, h, r, e => by
    refine lim_ok s bs (lim1 s best b) (fun c hc => hb c (List.mem_cons_of_mem _ hc)) (fun r hr => ?_) r e
    have hbt := hb b (List.mem_cons_self ..)
    unfold lim1 at hr
    split at hr
    · cases best with
      | none => cases hr; exact hbt
      | some q =>
        dsimp only at hr
        split at hr
        · cases hr; exact hbt
        · exact h r hr
    · exact h r hr
theorem fold_take (s : Sh) {bs : List Box} {i : Nat} {b : Box} (h : bs[i]? = some b) : (bs.take (i + 1)).foldl (lim1 s) none = lim1 s ((bs.take i).foldl (lim1 s) none) b := by
  rw [List.take_add_one, h, List.foldl_append]
  rfl
def free3 (x : Sl) : Prop := x = .no ∨ ∃ t, x = .val t
theorem fr_v (u : T) : free3 (.val u) := .inr ⟨_, rfl⟩
theorem sv4 (a b c d x f : Sl) (u : T) (hx : free3 x) : setV [a, b, c, d, x, f] 4 u = some [a, b, c, d, .val u, f] := by
  rcases hx with rfl | ⟨u, rfl⟩ <;> simp
theorem sv5 (a b c d x f : Sl) (u : T) (hx : free3 f) : setV [a, b, c, d, x, f] 5 u = some [a, b, c, d, x, .val u] := by
  rcases hx with rfl | ⟨u, rfl⟩ <;> simp
theorem sv2 (a b c d x f : Sl) (u : T) (hx : free3 c) : setV [a, b, c, d, x, f] 2 u = some [a, b, .val u, d, x, f] := by
  rcases hx with rfl | ⟨u, rfl⟩ <;> simp
theorem non_opt (o : Option Tol) : (optT o).isNon = o.isNone := by cases o <;> rfl
theorem lk1 (a b c : T) : lookF ks [a, b, c] "tolerance" = some a := rfl
theorem lk2 (a b c : T) : lookF ks [a, b, c] "eye" = some b := rfl
theorem lk3 (a b c : T) : lookF ks [a, b, c] "boxes" = some c := rfl
theorem fld_tol (t : Tol) (eye : T) (bs : List Box) (h : Hs) : fldF 0 "tolerance" (viewT t eye bs) h = .ok (tolT t) h := by
  unfold fldF viewT
  simp [lk1]
theorem fld_eye (t : Tol) (eye : T) (bs : List Box) (h : Hs) : fldF 0 "eye" (viewT t eye bs) h = .ok eye h := by
  unfold fldF viewT
  simp [lk2]
theorem fld_box (t : Tol) (eye : T) (bs : List Box) (h : Hs) : fldF 0 "boxes" (viewT t eye bs) h = .ok (.lst (bs.map boxT)) h := by
  unfold fldF viewT
  simp [lk3]
theorem ok_take (s : Sh) {bs : List Box} (hb : ∀ b ∈ bs, b.t.ok) {i : Nat} {r : Tol} (h : (bs.take i).foldl (lim1 s) none = some r) : r.ok :=
  lim_ok s (bs.take i) none (fun b m => hb b (List.mem_of_mem_take m)) (fun r z => by cases z) r h
theorem limit_spec (t : Tol) (eye : T) (bs : List Box) (s : Sh) (hb : ∀ b ∈ bs, b.t.ok) (h : Hs) : v_View_limit [viewT t eye (bs.map Box.nrm), shT s] h = .ok (tolT (limR t bs s)) h := by
  have loop := for_inv (rd := fun h' => seqOf h' (.lst ((bs.map Box.nrm).map boxT))) (g := gOne 3)
    (body := (ifS (andT (tst (callM 2 [] v_touches (acons (varM 3) (acons (varM 1) anil)))) (orT (tst (opM isF (varM 2) (cM .non))) (tst (callM 2 [] v_less (acons (opM ixF (varM 3) (cM (.int 4))) (acons (varM 2) anil)))))) (asgS (opM ixF (varM 3) (cM (.int 4))) (gOne 2)) nilS))
    (ys := (bs.map Box.nrm).map boxT)
    (fun i e h' => h' = h ∧ ∃ x, free3 x ∧ e = [.val (viewT t eye (bs.map Box.nrm)), .val (shT s), .val (optT ((bs.take i).foldl (lim1 s) none)), x]) (fun i e h' _ => rfl) (fun i e h' x p hx => by
      obtain ⟨rfl, x3, hf, rfl⟩ := p
      rw [List.getElem?_map, List.getElem?_map] at hx
      obtain ⟨b', hb', rfl⟩ := Option.map_eq_some_iff.mp hx
      obtain ⟨b, hbi, rfl⟩ := Option.map_eq_some_iff.mp hb'
      have hbt := hb b (List.mem_of_getElem? hbi)
      have hok : ∀ r, (bs.take i).foldl (lim1 s) none = some r → r.ok := fun r z => ok_take s hb z
      rw [fold_take s hbi]
      generalize (bs.take i).foldl (lim1 s) none = best at hok ⊢
      have e1 : setV [.val (viewT t eye (bs.map Box.nrm)), .val (shT s), .val (optT best), x3] 3 (boxT b.nrm) = some [.val (viewT t eye (bs.map Box.nrm)), .val (shT s), .val (optT best), .val (boxT b.nrm)] := by
        rcases hf with rfl | ⟨u, rfl⟩ <;> simp
      have e4 : ∀ h, seqOf h (boxT b.nrm) = some [.int b.nrm.x, .int b.nrm.y, .int b.nrm.xx, .int b.nrm.yy, tolT b.t] := fun _ => rfl
      refine ⟨_, [.val (viewT t eye (bs.map Box.nrm)), .val (shT s), .val (optT (lim1 s best b)), .val (boxT b.nrm)], h', e1, .inl ?_, rfl, _, .inr ⟨_, rfl⟩, rfl⟩
      unfold lim1
      by_cases ht : touch b.nrm s = true
      · cases best with
        | none => simp [touches_spec, ht, e4, optT]
        | some r =>
          have hl := less_spec b.t r hbt (hok r rfl) h'
          have hn : (tolT r).isNon = false := rfl
          by_cases hc : b.t.n * r.d < r.n * b.t.d <;> simp [touches_spec, ht, e4, optT, hl, hc, hn]
      · simp [touches_spec, ht]) ((bs.map Box.nrm).map boxT).length 0
      [.val (viewT t eye (bs.map Box.nrm)), .val (shT s), .val .non, .no] h (by omega) ⟨rfl, _, .inl rfl, rfl⟩
  obtain ⟨e', h', q1, rfl, x, hf, rfl⟩ := loop
  rw [List.length_map, List.length_map] at q1
  unfold v_View_limit m_View_limit
  simp [fld_box]
  simp only [sq_lst, List.map_map, List.take_length] at q1
  rw [q1]
  unfold limR
  generalize bs.foldl (lim1 s) none = r
  cases r with
  | none => simp [optT, fld_tol]
  | some r =>
    have hn : (tolT r).isNon = false := rfl
    simp [optT, hn]
theorem touch_law (b : Box) (s : Sh) : touch b.nrm s = (decide (min s.a (min s.c s.e) ≤ max b.x b.xx) && decide (min b.x b.xx ≤ max s.a (max s.c s.e)) && (decide (min s.b (min s.d s.f) ≤ max b.y b.yy) && decide (min b.y b.yy ≤ max s.b (max s.d s.f)))) := by
  unfold touch Box.nrm
  rw [Int.max_assoc, Int.min_assoc, Int.max_assoc, Int.min_assoc]
  dsimp only
  generalize decide (min b.x b.xx ≤ max s.a (max s.c s.e)) = p1
  generalize decide (min s.a (min s.c s.e) ≤ max b.x b.xx) = p2
  generalize decide (min b.y b.yy ≤ max s.b (max s.d s.f)) = p3
  generalize decide (min s.b (min s.d s.f) ≤ max b.y b.yy) = p4
  cases p1 <;> cases p2 <;> cases p3 <;> cases p4 <;> rfl
def sightT (t : Tol) (spot : T) (bs : List Box) : T := .tup [tolT t, spot, .lst (bs.map boxT)]
theorem sq_box (b : Box) (h : Hs) : seqOf h (boxT b) = some [.int b.x, .int b.y, .int b.xx, .int b.yy, tolT b.t] := rfl
theorem sq_sh (s : Sh) (h : Hs) : seqOf h (shT s) = some [.int s.a, .int s.b, .int s.c, .int s.d, .int s.e, .int s.f] := rfl
theorem sq_tol (t : Tol) (h : Hs) : seqOf h (tolT t) = some [.int t.n, .int t.d] := rfl
theorem sq_sight (t : Tol) (spot : T) (bs : List Box) (h : Hs) : seqOf h (sightT t spot bs) = some [tolT t, spot, .lst (bs.map boxT)] := rfl
theorem lawlimit_spec (t : Tol) (spot : T) (bs : List Box) (s : Sh) (hb : ∀ b ∈ bs, b.t.ok) (h : Hs) : v_law_limit [sightT t spot bs, shT s] h = .ok (tolT (limR t bs s)) h := by
  have loop := for_inv (rd := fun h' => seqOf h' (.lst (bs.map boxT))) (g := gOne 3)
    (body := (seqS (asgS (opM geF (callBM maxF (acons (opM ixF (varM 3) (cM (.int 0))) (acons (opM ixF (varM 3) (cM (.int 2))) anil))) (callBM minF (acons (opM ixF (varM 1) (cM (.int 0))) (acons (opM ixF (varM 1) (cM (.int 2))) (acons (opM ixF (varM 1) (cM (.int 4))) anil))))) (gOne 4)) <|
    seqS (asgS (andM (varM 4) (opM leF (callBM minF (acons (opM ixF (varM 3) (cM (.int 0))) (acons (opM ixF (varM 3) (cM (.int 2))) anil))) (callBM maxF (acons (opM ixF (varM 1) (cM (.int 0))) (acons (opM ixF (varM 1) (cM (.int 2))) (acons (opM ixF (varM 1) (cM (.int 4))) anil)))))) (gOne 4)) <|
    seqS (asgS (opM geF (callBM maxF (acons (opM ixF (varM 3) (cM (.int 1))) (acons (opM ixF (varM 3) (cM (.int 3))) anil))) (callBM minF (acons (opM ixF (varM 1) (cM (.int 1))) (acons (opM ixF (varM 1) (cM (.int 3))) (acons (opM ixF (varM 1) (cM (.int 5))) anil))))) (gOne 5)) <|
    seqS (asgS (andM (varM 5) (opM leF (callBM minF (acons (opM ixF (varM 3) (cM (.int 1))) (acons (opM ixF (varM 3) (cM (.int 3))) anil))) (callBM maxF (acons (opM ixF (varM 1) (cM (.int 1))) (acons (opM ixF (varM 1) (cM (.int 3))) (acons (opM ixF (varM 1) (cM (.int 5))) anil)))))) (gOne 5)) <|
    ifS (andT (tst (varM 4)) (tst (varM 5))) (ifS (orT (tst (opM isF (varM 2) (cM .non))) (tst (opM ltF (opM mulF (opM ixF (opM ixF (varM 3) (cM (.int 4))) (cM (.int 0))) (opM ixF (varM 2) (cM (.int 1)))) (opM mulF (opM ixF (varM 2) (cM (.int 0))) (opM ixF (opM ixF (varM 3) (cM (.int 4))) (cM (.int 1))))))) (asgS (opM ixF (varM 3) (cM (.int 4))) (gOne 2)) nilS) nilS))
    (ys := bs.map boxT)
    (fun i e h' => h' = h ∧ ∃ x y z, free3 x ∧ free3 y ∧ free3 z ∧ e = [.val (sightT t spot bs), .val (shT s), .val (optT ((bs.take i).foldl (lim1 s) none)), x, y, z]) (fun i e h' _ => rfl) (fun i e h' x p hx => by
      obtain ⟨rfl, x3, x4, x5, f3, f4, f5, rfl⟩ := p
      rw [List.getElem?_map] at hx
      obtain ⟨b, hbi, rfl⟩ := Option.map_eq_some_iff.mp hx
      have hbt := hb b (List.mem_of_getElem? hbi)
      have hok : ∀ r, (bs.take i).foldl (lim1 s) none = some r → r.ok := fun r z => ok_take s hb z
      rw [fold_take s hbi]
      generalize (bs.take i).foldl (lim1 s) none = best at hok ⊢
      have e1 : setV [.val (sightT t spot bs), .val (shT s), .val (optT best), x3, x4, x5] 3 (boxT b) = some [.val (sightT t spot bs), .val (shT s), .val (optT best), .val (boxT b), x4, x5] := by
        rcases f3 with rfl | ⟨u, rfl⟩ <;> simp
      refine ⟨_, [.val (sightT t spot bs), .val (shT s), .val (optT (lim1 s best b)), .val (boxT b), .val (.bl (decide (min s.a (min s.c s.e) ≤ max b.x b.xx) && decide (min b.x b.xx ≤ max s.a (max s.c s.e)))), .val (.bl (decide (min s.b (min s.d s.f) ≤ max b.y b.yy) && decide (min b.y b.yy ≤ max s.b (max s.d s.f))))], h', e1, .inl ?_, rfl, _, _, _, .inr ⟨_, rfl⟩, .inr ⟨_, rfl⟩, .inr ⟨_, rfl⟩, rfl⟩
      unfold lim1
      rw [touch_law]
      by_cases p1 : min s.a (min s.c s.e) ≤ max b.x b.xx <;> by_cases p2 : min b.x b.xx ≤ max s.a (max s.c s.e) <;> by_cases p3 : min s.b (min s.d s.f) ≤ max b.y b.yy <;> by_cases p4 : min b.y b.yy ≤ max s.b (max s.d s.f)
      all_goals first
        | (simp [sq_box, sq_sh, -ev_setV, sv4, sv5, sv2, fr_v, f4, f5, p1, p2, p3, p4]; done)
        | skip
      cases best with
      | none => simp [sq_box, sq_sh, -ev_setV, sv4, sv5, sv2, fr_v, f4, f5, p1, p2, p3, p4, optT]
      | some r =>
        obtain ⟨_, _, _, _⟩ := hok r rfl
        obtain ⟨_, _, _, _⟩ := hbt
        have s1 : smallI b.t.n = true := smallI_of (by omega) (by omega)
        have s2 : smallI r.n = true := smallI_of (by omega) (by omega)
        have hn : (tolT r).isNon = false := rfl
        by_cases hc : b.t.n * r.d < r.n * b.t.d <;> simp [sq_box, sq_sh, sq_tol, -ev_setV, sv4, sv5, sv2, fr_v, f4, f5, p1, p2, p3, p4, optT, s1, s2, hn, hc]) (bs.map boxT).length 0
      [.val (sightT t spot bs), .val (shT s), .val .non, .no, .no, .no] h (by omega) ⟨rfl, _, _, _, .inl rfl, .inl rfl, .inl rfl, rfl⟩
  obtain ⟨e', h', q1, rfl, x, y, z, f3, f4, f5, rfl⟩ := loop
  rw [List.length_map] at q1
  unfold v_law_limit m_law_limit
  simp [sq_sight]
  simp only [sq_lst, List.map_map, List.take_length] at q1
  rw [q1]
  unfold limR
  generalize bs.foldl (lim1 s) none = r
  cases r with
  | none => simp [optT, sq_sight]
  | some r =>
    have hn : (tolT r).isNon = false := rfl
    simp [optT, hn]
end K48
namespace K48
open PySem L2 Y
abbrev Spot := Option (Int × Int)
def spotT : Spot → T
  | none => .non
  | some p => .tup [.int p.1, .int p.2]
def spotOk (p : Spot) : Prop := ∀ q, p = some q → -100 ≤ q.1 ∧ q.1 ≤ 100 ∧ -100 ≤ q.2 ∧ q.2 ≤ 100
def farR (p : Spot) (s : Sh) : Int := match p with
  | none => 1
  | some q => 1 + min (min ((s.a - q.1) * (s.a - q.1) + (s.b - q.2) * (s.b - q.2)) ((s.c - q.1) * (s.c - q.1) + (s.d - q.2) * (s.d - q.2))) ((s.e - q.1) * (s.e - q.1) + (s.f - q.2) * (s.f - q.2))
theorem sm (i j : Int) (h : inB i) (h1 : -100 ≤ j) (h2 : j ≤ 100) : smallI (i - j) = true := by
  obtain ⟨_, _⟩ := h
  exact smallI_of (by omega) (by omega)
theorem far_spec (t : Tol) (p : Spot) (bs : List Box) (s : Sh) (hs : s.ok) (hp : spotOk p) (h : Hs) : v_View_far [viewT t (spotT p) bs, shT s] h = .ok (.int (farR p s)) h := by
  obtain ⟨a1, a2, a3, a4, a5, a6⟩ := hs
  unfold v_View_far m_View_far
  cases p with
  | none => simp [fld_eye, spotT, farR]
  | some q =>
    obtain ⟨x, y⟩ := q
    obtain ⟨b1, b2, b3, b4⟩ := hp _ rfl
    have e : ∀ z : Int, z ^ 2 = z * z := fun z => by rw [Int.pow_succ, Int.pow_succ, Int.pow_zero, Int.one_mul]
    simp [fld_eye, spotT, farR, compL, sq_sh, sm _ _ a1 b1 b2, sm _ _ a2 b3 b4, sm _ _ a3 b1 b2, sm _ _ a4 b3 b4, sm _ _ a5 b1 b2, sm _ _ a6 b3 b4, minL, e]
theorem lawfar_spec (t : Tol) (p : Spot) (bs : List Box) (s : Sh) (hs : s.ok) (hp : spotOk p) (h : Hs) : v_law_far [sightT t (spotT p) bs, shT s] h = .ok (.int (farR p s)) h := by
  obtain ⟨a1, a2, a3, a4, a5, a6⟩ := hs
  unfold v_law_far m_law_far v_law_corners_of m_law_corners_of
  cases p with
  | none => simp [sq_sight, spotT, farR]
  | some q =>
    obtain ⟨x, y⟩ := q
    obtain ⟨b1, b2, b3, b4⟩ := hp _ rfl
    simp [sq_sight, spotT, farR, compL, sq_sh, sm _ _ a1 b1 b2, sm _ _ a2 b3 b4, sm _ _ a3 b1 b2, sm _ _ a4 b3 b4, sm _ _ a5 b1 b2, sm _ _ a6 b3 b4, minL]
theorem same_int (d : Nat) (i : Int) (h : Hs) : v_law_same (d + 1) [.int i, .int i] h = .ok (.bl true) h := by
  show fnV 1 (m_law_same (v_law_same d)) [.int i, .int i] h = _
  unfold m_law_same v_law_whole m_law_whole
  simp [kdOf, Kd.is]
theorem same_non (d : Nat) (h : Hs) : v_law_same (d + 1) [.non, .non] h = .ok (.bl true) h := by
  show fnV 1 (m_law_same (v_law_same d)) [.non, .non] h = _
  unfold m_law_same
  simp
theorem same_two (d : Nat) (i j : Int) (h : Hs) : v_law_same (d + 2) [.tup [.int i, .int j], .tup [.int i, .int j]] h = .ok (.bl true) h := by
  show fnV 1 (m_law_same (v_law_same (d + 1))) [.tup [.int i, .int j], .tup [.int i, .int j]] h = _
  unfold m_law_same
  simp [kdOf, Kd.is, big62, rngL, List.range, List.range.loop, forL, same_int]
theorem same_tol (t : Tol) (h : Hs) : v_law_same 3 [tolT t, tolT t] h = .ok (.bl true) h := same_two 1 _ _ h
theorem same_spot (p : Spot) (h : Hs) : v_law_same 3 [spotT p, spotT p] h = .ok (.bl true) h := by
  cases p with
  | none => exact same_non 2 h
  | some q => exact same_two 1 _ _ h
theorem ins_view (t : Tol) (eye : T) (bs : List Box) (h : Hs) : insOf h (viewT t eye bs) = some (0, ks, [tolT t, eye, .lst (bs.map boxT)]) := rfl
theorem ks1 : ("limit" : Str) ∉ ks := by decide
theorem ks2 : ("far" : Str) ∉ ks := by decide
theorem holds_spec (t : Tol) (p : Spot) (bs : List Box) (ss : List Sh) (hb : ∀ b ∈ bs, b.t.ok) (hs : ∀ s ∈ ss, s.ok) (hp : spotOk p) (h : Hs) :
    v_law_holds [viewT t (spotT p) (bs.map Box.nrm), sightT t (spotT p) bs, .lst (ss.map shT)] h = .ok (.bl true) h := by
  have loop := for_inv (rd := fun h' => seqOf h' (.lst (ss.map shT))) (g := gOne 4)
    (body := (seqS (asgS (andM (varM 3) (callM 2 [] (v_law_same 3) (acons (methM 0 "limit" 2 [] v_View_limit (varM 0) (acons (varM 4) anil)) (acons (callM 2 [] v_law_limit (acons (varM 1) (acons (varM 4) anil))) anil)))) (gOne 3)) <|
    asgS (andM (varM 3) (callM 2 [] (v_law_same 3) (acons (methM 0 "far" 2 [] v_View_far (varM 0) (acons (varM 4) anil)) (acons (callM 2 [] v_law_far (acons (varM 1) (acons (varM 4) anil))) anil)))) (gOne 3)))
    (ys := ss.map shT)
    (fun i e h' => h' = h ∧ ∃ x, free3 x ∧ e = [.val (viewT t (spotT p) (bs.map Box.nrm)), .val (sightT t (spotT p) bs), .val (.lst (ss.map shT)), .val (.bl true), x]) (fun i e h' _ => rfl) (fun i e h' x q hx => by
      obtain ⟨rfl, x4, f4, rfl⟩ := q
      rw [List.getElem?_map] at hx
      obtain ⟨s, hsi, rfl⟩ := Option.map_eq_some_iff.mp hx
      have hso := hs s (List.mem_of_getElem? hsi)
      refine ⟨[.val (viewT t (spotT p) (bs.map Box.nrm)), .val (sightT t (spotT p) bs), .val (.lst (ss.map shT)), .val (.bl true), .val (shT s)], [.val (viewT t (spotT p) (bs.map Box.nrm)), .val (sightT t (spotT p) bs), .val (.lst (ss.map shT)), .val (.bl true), .val (shT s)], h', ?_, .inl ?_, rfl, _, .inr ⟨_, rfl⟩, rfl⟩
      · rcases f4 with rfl | ⟨u, rfl⟩ <;> simp
      · simp [ins_view, ks1, ks2, limit_spec t (spotT p) bs s hb, lawlimit_spec t (spotT p) bs s hb, far_spec t p (bs.map Box.nrm) s hso hp, lawfar_spec t p bs s hso hp, same_tol, same_int]) (ss.map shT).length 0
      [.val (viewT t (spotT p) (bs.map Box.nrm)), .val (sightT t (spotT p) bs), .val (.lst (ss.map shT)), .val (.bl true), .no] h (by omega) ⟨rfl, _, .inl rfl, rfl⟩
  obtain ⟨e', h', q1, rfl, x, f4, rfl⟩ := loop
  rw [List.length_map] at q1
  simp only [sq_lst] at q1
  unfold v_law_holds m_law_holds
  simp [fld_tol, fld_eye, sq_sight, same_tol, same_spot, q1]
end K48
namespace K48
open PySem L2 Y
theorem draw_b {rest h : Hs} {m : Int} (hb : Bag rest h) (hm : 0 < m) (hm2 : m < 2 ^ 64) : ∃ i h', v_law_draw [.ref 1, .int m] h = .ok (.int i) h' ∧ 0 ≤ i ∧ i < m ∧ Bag rest h' := Y.draw_b hb hm hm2
theorem low_loop (x y : T) (h : Hs) : ∀ (n q p : Nat) (s4 : Sl), free3 s4 → q < n → ∃ s4', free3 s4' ∧
    whileL (tst (opM gtF (varM 3) (cM (.int 0)))) (seqS (asgS (opM modF (varM 2) (varM 3)) (gOne 4)) <| seqS (asgS (varM 3) (gOne 2)) <| asgS (varM 4) (gOne 3)) n [.val x, .val y, .val (.int p), .val (.int q), s4] h = .nx [.val x, .val y, .val (.int (Nat.gcd p q)), .val (.int 0), s4'] h
  | 0, q, p, s4, hf, hq => absurd hq (Nat.not_lt_zero _)
  | n + 1, q, p, s4, hf, hq => by
    by_cases h0 : q = 0
    · subst h0
      refine ⟨s4, hf, ?_⟩
      unfold whileL
      simp
    · have hpos : 0 < q := Nat.pos_of_ne_zero h0
      obtain ⟨s4', hf', e⟩ := low_loop x y h n (p % q) q (.val (.int ((p % q : Nat) : Int))) (.inr ⟨_, rfl⟩) (Nat.lt_of_lt_of_le (Nat.mod_lt _ hpos) (Nat.le_of_lt_succ hq))
      refine ⟨s4', hf', ?_⟩
      have g : Nat.gcd p q = Nat.gcd q (p % q) := by
        rw [Nat.gcd_comm p q, Nat.gcd_rec q p, Nat.gcd_comm]
      rw [g, ← e]
      have hq' : (0 : Int) < q := by omega
      conv => lhs; unfold whileL
      rcases hf with rfl | ⟨u, rfl⟩ <;> simp [hpos, hq']
theorem low_b (g b : Int) (hg : 0 ≤ g) (hg2 : g < 40) (hb : 1 ≤ b) (hb2 : b ≤ 8) (h : Hs) : ∃ t : Tol, t.ok ∧ v_law_low [.int g, .int b] h = .ok (tolT t) h := by
  obtain ⟨p, rfl⟩ := Int.eq_ofNat_of_zero_le hg
  obtain ⟨q, rfl⟩ := Int.eq_ofNat_of_zero_le (show 0 ≤ b by omega)
  have hq : 0 < q := by omega
  have hk : 0 < Nat.gcd p q := Nat.gcd_pos_of_pos_right _ hq
  have hk2 : Nat.gcd p q ≤ q := Nat.le_of_dvd hq (Nat.gcd_dvd_right _ _)
  obtain ⟨s4, _, e⟩ := low_loop (.int p) (.int q) h 64 q p .no (.inl rfl) (by omega)
  have d1 : p / Nat.gcd p q ≤ p := Nat.div_le_self _ _
  have d2 : q / Nat.gcd p q ≤ q := Nat.div_le_self _ _
  have d3 : 0 < q / Nat.gcd p q := Nat.div_pos hk2 hk
  unfold v_law_low m_law_low tolT
  generalize Nat.gcd p q = k at *
  have a1 : ¬ ((p : Int) < 0) := by omega
  have a2 : ¬ ((q : Int) < 0) := by omega
  have a3 : 0 < k := hk
  have a4 : ((k : Nat) : Int) < 18446744073709551616 := by omega
  refine ⟨⟨((p / k : Nat) : Int), ((q / k : Nat) : Int)⟩, ?_, by simp [a1, a2, e, a3, a4]⟩
  generalize p / k = u at *
  generalize q / k = v at *
  exact ⟨Int.natCast_nonneg _, by dsimp only; omega, by dsimp only; omega, by dsimp only; omega⟩
theorem tol_b {rest h : Hs} (hb : Bag rest h) : ∃ (t : Tol) (h' : Hs), v_law_tolerance [.ref 1] h = .ok (tolT t) h' ∧ t.ok ∧ Bag rest h' := by
  obtain ⟨i, h1, e1, i0, i1, b1⟩ := draw_b (m := 5) hb (by decide) (by decide)
  unfold v_law_tolerance m_law_tolerance tolT
  by_cases c0 : i = 0
  · subst c0
    exact ⟨⟨0, 1⟩, h1, by simp [e1], by unfold Tol.ok; decide, b1⟩
  · by_cases c1 : i = 1
    · subst c1
      obtain ⟨j, h2, e2, j0, j1, b2⟩ := draw_b (m := 6) b1 (by decide) (by decide)
      exact ⟨⟨j, 1⟩, h2, by simp [e1, e2], ⟨j0, by dsimp only; omega, by dsimp only; omega, by dsimp only; omega⟩, b2⟩
    · by_cases c2 : i = 2
      · subst c2
        obtain ⟨j, h2, e2, j0, j1, b2⟩ := draw_b (m := 40) b1 (by decide) (by decide)
        obtain ⟨k, h3, e3, k0, k1, b3⟩ := draw_b (m := 8) b2 (by decide) (by decide)
        obtain ⟨t, ht, e4⟩ := low_b j (1 + k) j0 j1 (by omega) (by omega) h3
        exact ⟨t, h3, by simp [e1, e2, e3, e4, tolT], ht, b3⟩
      · obtain ⟨j, h2, e2, j0, j1, b2⟩ := draw_b (m := 1500) b1 (by decide) (by decide)
        exact ⟨⟨j, 1⟩, h2, by simp [e1, e2, c0, c1, c2], ⟨j0, by dsimp only; omega, by dsimp only; omega, by dsimp only; omega⟩, b2⟩
end K48
namespace K48
open PySem L2 Y
theorem sv4' (a b c d x f : Sl) (u : T) (hx : free3 x) : setV [a, b, c, d, x, f] 4 u = some [a, b, c, d, .val u, f] := sv4 a b c d x f u hx
theorem box_b {rest h : Hs} (x5 : Sl) (f5 : free3 x5) (P a b k : T) (bs : List Box) (hl : bs.length ≤ 1000) (hb : Bag rest h) : ∃ (bx : Box) (y : T) (h' : Hs), bx.t.ok ∧ Bag rest h' ∧
    (seqS (asgS (tupM (acons (opM subF (callM 2 [] v_law_draw (acons (varM 0) (acons (cM (.int 13)) anil))) (cM (.int 2))) (acons (opM subF (callM 2 [] v_law_draw (acons (varM 0) (acons (cM (.int 13)) anil))) (cM (.int 2))) (acons (opM subF (callM 2 [] v_law_draw (acons (varM 0) (acons (cM (.int 13)) anil))) (cM (.int 2))) (acons (opM subF (callM 2 [] v_law_draw (acons (varM 0) (acons (cM (.int 13)) anil))) (cM (.int 2))) anil))))) (gOne 5)) <|
    appC 3 (tupM (acons (opM ixF (varM 5) (cM (.int 0))) (acons (opM ixF (varM 5) (cM (.int 1))) (acons (opM ixF (varM 5) (cM (.int 2))) (acons (opM ixF (varM 5) (cM (.int 3))) (acons (callM 1 [] v_law_tolerance (acons (varM 0) anil)) anil)))))))
      [.val (.ref 1), .val P, .val a, .own (.lst (bs.map boxT)), .val k, x5] h = .nx [.val (.ref 1), .val P, .val a, .own (.lst ((bs ++ [bx]).map boxT)), .val k, .val y] h' := by
  obtain ⟨i1, h1, e1, _, _, b1⟩ := draw_b (m := 13) hb (by decide) (by decide)
  obtain ⟨i2, h2, e2, _, _, b2⟩ := draw_b (m := 13) b1 (by decide) (by decide)
  obtain ⟨i3, h3, e3, _, _, b3⟩ := draw_b (m := 13) b2 (by decide) (by decide)
  obtain ⟨i4, h4, e4, _, _, b4⟩ := draw_b (m := 13) b3 (by decide) (by decide)
  obtain ⟨t, h5, e5, ht, b5⟩ := tol_b b4
  have hf : bs.length < 16777216 := by omega
  refine ⟨⟨i1 - 2, i2 - 2, i3 - 2, i4 - 2, t⟩, .tup [.int (i1 - 2), .int (i2 - 2), .int (i3 - 2), .int (i4 - 2)], h5, ht, b5, ?_⟩
  rcases f5 with rfl | ⟨u, rfl⟩ <;> simp [e1, e2, e3, e4, e5, cell, putCell, hf, boxT]
theorem sight_b {rest h : Hs} (P : T) (hb : Bag rest h) : ∃ (t : Tol) (p : Spot) (bs : List Box) (h' : Hs), v_law_sight [.ref 1, P] h = .ok (sightT t (spotT p) bs) h' ∧ t.ok ∧ spotOk p ∧ (∀ b ∈ bs, b.t.ok) ∧ bs.length ≤ 3 ∧ Bag rest h' := by
  obtain ⟨i1, h1, e1, _, _, b1⟩ := draw_b (m := 3) hb (by decide) (by decide)
  have spot : ∃ (p : Spot) (h2 : Hs), spotOk p ∧ Bag rest h2 ∧ (ifS (tst (opM eqF (callM 2 [] v_law_draw (acons (varM 0) (acons (cM (.int 3)) anil))) (cM (.int 1)))) (asgS (tupM (acons (opM subF (callM 2 [] v_law_draw (acons (varM 0) (acons (cM (.int 40)) anil))) (cM (.int 12))) (acons (opM subF (callM 2 [] v_law_draw (acons (varM 0) (acons (cM (.int 40)) anil))) (cM (.int 12))) anil))) (gOne 2)) nilS)
      [.val (.ref 1), .val P, .val .non, .no, .no, .no] h = .nx [.val (.ref 1), .val P, .val (spotT p), .no, .no, .no] h2 := by
    by_cases c1 : i1 = 1
    · subst c1
      obtain ⟨i2, h2, e2, _, _, b2⟩ := draw_b (m := 40) b1 (by decide) (by decide)
      obtain ⟨i3, h3, e3, _, _, b3⟩ := draw_b (m := 40) b2 (by decide) (by decide)
      exact ⟨some (i2 - 12, i3 - 12), h3, fun q hq => by cases hq; exact ⟨by dsimp only; omega, by dsimp only; omega, by dsimp only; omega, by dsimp only; omega⟩, b3, by simp [e1, e2, e3, spotT]⟩
    · exact ⟨none, h1, fun q hq => (by cases hq), b1, by simp [e1, c1, spotT]⟩
  obtain ⟨p, h2, hp, b2, es⟩ := spot
  obtain ⟨i3, h3, e3, r0, r1, b3⟩ := draw_b (m := 5) b2 (by decide) (by decide)
  obtain ⟨x, hx, hat, _⟩ := atI_lt (xs := [T.int 0, T.int 0, T.int 1, T.int 2, T.int 3]) r0 r1
  have hx' : ∃ j : Int, x = T.int j ∧ 0 ≤ j ∧ j ≤ 3 := by
    simp only [List.mem_cons, List.not_mem_nil, or_false] at hx
    rcases hx with rfl | rfl | rfl | rfl | rfl
    · exact ⟨0, rfl, by decide, by decide⟩
    · exact ⟨0, rfl, by decide, by decide⟩
    · exact ⟨1, rfl, by decide, by decide⟩
    · exact ⟨2, rfl, by decide, by decide⟩
    · exact ⟨3, rfl, by decide, by decide⟩
  obtain ⟨j, rfl, hj0, hj⟩ := hx'
  have hlen : (rngL 0 j.toNat).length = j.toNat := by unfold rngL; simp
  have loop := for_inv (rd := fun (_ : Hs) => some (rngL 0 j.toNat)) (g := gOne 4) (ys := rngL 0 j.toNat)
    (body := (seqS (asgS (tupM (acons (opM subF (callM 2 [] v_law_draw (acons (varM 0) (acons (cM (.int 13)) anil))) (cM (.int 2))) (acons (opM subF (callM 2 [] v_law_draw (acons (varM 0) (acons (cM (.int 13)) anil))) (cM (.int 2))) (acons (opM subF (callM 2 [] v_law_draw (acons (varM 0) (acons (cM (.int 13)) anil))) (cM (.int 2))) (acons (opM subF (callM 2 [] v_law_draw (acons (varM 0) (acons (cM (.int 13)) anil))) (cM (.int 2))) anil))))) (gOne 5)) <|
    appC 3 (tupM (acons (opM ixF (varM 5) (cM (.int 0))) (acons (opM ixF (varM 5) (cM (.int 1))) (acons (opM ixF (varM 5) (cM (.int 2))) (acons (opM ixF (varM 5) (cM (.int 3))) (acons (callM 1 [] v_law_tolerance (acons (varM 0) anil)) anil))))))))
    (fun i e h' => Bag rest h' ∧ ∃ bs x y, free3 x ∧ free3 y ∧ (∀ b ∈ bs, b.t.ok) ∧ bs.length ≤ i ∧ e = [.val (.ref 1), .val P, .val (spotT p), .own (.lst (bs.map boxT)), x, y]) (fun i e h' _ => rfl) (fun i e h' x q hx => by
      obtain ⟨bb, bs, x4, x5, f4, f5, hbs, hl, rfl⟩ := q
      have hi : i < j.toNat := by
        have := (List.getElem?_eq_some_iff.mp hx).1
        omega
      obtain ⟨bx, y, h4, hbx, b4, e4⟩ := box_b x5 f5 P (spotT p) (.int 0) x bs (by omega) bb
      refine ⟨_, _, h4, sv4 _ _ _ _ _ _ x f4, .inl e4, b4, bs ++ [bx], .val x, .val y, fr_v x, fr_v y, fun b m => ?_, by rw [List.length_append, List.length_singleton]; omega, rfl⟩
      rcases List.mem_append.mp m with m | m
      · exact hbs b m
      · rw [List.mem_singleton] at m
        rw [m]; exact hbx) (rngL 0 j.toNat).length 0
      [.val (.ref 1), .val P, .val (spotT p), .own (.lst []), .no, .no] h3 (by omega) ⟨b3, [], _, _, .inl rfl, .inl rfl, (fun b m => (by cases m)), Nat.le_refl _, rfl⟩
  obtain ⟨e', h4, q1, b4, bs, x, y, f4, f5, hbs, hl, rfl⟩ := loop
  obtain ⟨t, h5, e5, ht, b5⟩ := tol_b b4
  refine ⟨t, p, bs, h5, ?_, ht, hp, hbs, by omega, b5⟩
  have hbig : big62 j = true := by
    unfold big62
    rw [decide_eq_true (show -(2 ^ 62) ≤ j by omega), decide_eq_true (show j < 2 ^ 62 by omega)]
    rfl
  have it : (opM ixF (lstM (acons (cM (.int 0)) (acons (cM (.int 0)) (acons (cM (.int 1)) (acons (cM (.int 2)) (acons (cM (.int 3)) anil)))))) (callM 2 [] v_law_draw (acons (varM 0) (acons (cM (.int 5)) anil)))) [.val (.ref 1), .val P, .val (spotT p), .own (.lst []), .no, .no] h2 = .ok (.int j) h3 := by
    have l0 : (lstM (acons (cM (.int 0)) (acons (cM (.int 0)) (acons (cM (.int 1)) (acons (cM (.int 2)) (acons (cM (.int 3)) anil)))))) [.val (.ref 1), .val P, .val (spotT p), .own (.lst []), .no, .no] h2 = .ok (.lst [T.int 0, T.int 0, T.int 1, T.int 2, T.int 3]) h2 := by simp
    have l1 : (callM 2 [] v_law_draw (acons (varM 0) (acons (cM (.int 5)) anil))) [.val (.ref 1), .val P, .val (spotT p), .own (.lst []), .no, .no] h2 = .ok (.int i3) h3 := by simp [e3]
    rw [ev_op, l0, Res.bind_ok, l1, Res.bind_ok, ev_ix, sq_lst]
    dsimp only
    rw [hat]
  unfold v_law_sight m_law_sight sightT
  simp [-ev_ifS, -ev_op, es, it, hbig, q1, e5]
/-! ### shapes -/
def rootsL (p : Int × Int × Int) : List Sh := (List.range p.1.toNat).flatMap fun (i : Nat) => (List.range p.2.1.toNat).flatMap fun (j : Nat) =>
  let x := (i : Int) * p.2.2
  let y := (j : Int) * p.2.2
  let s := p.2.2
  if (i + j) % 2 = 0 then [⟨x, y, x + s, y + s, x + s, y⟩, ⟨x + s, y + s, x, y, x, y + s⟩] else [⟨x + s, y, x, y + s, x + s, y + s⟩, ⟨x, y + s, x + s, y, x, y⟩]
def okB (s : Sh) : Bool := [s.a, s.b, s.c, s.d, s.e, s.f].all fun i => decide (0 ≤ i) && decide (i ≤ 64)
theorem okB_ok {s : Sh} (h : okB s = true) : s.ok := by
  unfold okB at h
  simp only [List.all_cons, List.all_nil, Bool.and_eq_true, decide_eq_true_eq, and_true] at h
  exact h
theorem roots_ok : ∀ p ∈ plans, 0 < (rootsL p).length ∧ (rootsL p).length ≤ 40 ∧ ((rootsL p).all okB) = true := by decide +kernel
theorem roots_spec : ∀ p ∈ plans, ∀ h : Hs, v_law_roots [planT p] h = .ok (.lst ((rootsL p).map shT)) h := by
  intro p hp h
  simp only [plans, List.mem_cons, List.not_mem_nil, or_false] at hp
  rcases hp with rfl | rfl | rfl | rfl | rfl | rfl | rfl | rfl | rfl | rfl | rfl | rfl <;> kernel_rfl
theorem middle_spec (s : Sh) (h : Hs) : v_law_middle [shT s] h = .ok (if (s.a + s.c) % 2 = 1 ∨ (s.b + s.d) % 2 = 1 then .non else .tup [.int ((s.a + s.c) / 2), .int ((s.b + s.d) / 2)]) h := by
  unfold v_law_middle m_law_middle
  by_cases h1 : (s.a + s.c) % 2 = 1 <;> by_cases h2 : (s.b + s.d) % 2 = 1 <;> simp [sq_sh, h1, h2]
theorem half_ok (s : Sh) (hs : s.ok) (hm : ¬ ((s.a + s.c) % 2 = 1 ∨ (s.b + s.d) % 2 = 1)) (h : Hs) : ∃ s1 s2 : Sh, s1.ok ∧ s2.ok ∧ v_law_halves [shT s] h = .ok (.lst [shT s1, shT s2]) h := by
  obtain ⟨a1, a2, a3, a4, a5, a6⟩ := hs
  unfold inB at *
  refine ⟨⟨s.a, s.b, s.e, s.f, (s.a + s.c) / 2, (s.b + s.d) / 2⟩, ⟨s.e, s.f, s.c, s.d, (s.a + s.c) / 2, (s.b + s.d) / 2⟩, ?_, ?_, ?_⟩
  · unfold Sh.ok inB
    dsimp only
    omega
  · unfold Sh.ok inB
    dsimp only
    omega
  · unfold v_law_halves m_law_halves
    have e1 := middle_spec s h
    simp [e1, hm, sq_sh]
    exact ⟨rfl, rfl⟩
theorem shape_b {rest h : Hs} (p : Int × Int × Int) (hp : p ∈ plans) (hb : Bag rest h) : ∃ (s : Sh) (h' : Hs), v_law_shape [.ref 1, planT p] h = .ok (shT s) h' ∧ s.ok ∧ Bag rest h' := by
  obtain ⟨l0, l1, la⟩ := roots_ok p hp
  obtain ⟨i1, h1, e1, r0, r1, b1⟩ := draw_b (m := (rootsL p).length) hb (by omega) (by omega)
  obtain ⟨x, hx, hat, _⟩ := atI_lt (xs := (rootsL p).map shT) r0 (by rw [List.length_map]; exact r1)
  obtain ⟨s0, hs0, rfl⟩ := List.mem_map.mp hx
  have ok0 : s0.ok := okB_ok (List.all_eq_true.mp la s0 hs0)
  obtain ⟨i2, h2, e2, q0, q1, b2⟩ := draw_b (m := 8) b1 (by decide) (by decide)
  have hlen : (rngL 0 i2.toNat).length = i2.toNat := by unfold rngL; simp
  have loop := for_inv (rd := fun (_ : Hs) => some (rngL 0 i2.toNat)) (g := gOne 4) (ys := rngL 0 i2.toNat)
    (body := (ifS (tst (opM isntF (callM 1 [] v_law_middle (acons (varM 3) anil)) (cM .non))) (asgS (opM ixF (callM 1 [] v_law_halves (acons (varM 3) anil)) (callM 2 [] v_law_draw (acons (varM 0) (acons (cM (.int 2)) anil)))) (gOne 3)) nilS))
    (fun i e h' => Bag rest h' ∧ ∃ s x, Sh.ok s ∧ free3 x ∧ e = [.val (.ref 1), .val (planT p), .val (.lst ((rootsL p).map shT)), .val (shT s), x]) (fun i e h' _ => rfl) (fun i e h' x q hx => by
      obtain ⟨bb, s, x4, hs, f4, rfl⟩ := q
      have e0 : setV [.val (.ref 1), .val (planT p), .val (.lst ((rootsL p).map shT)), .val (shT s), x4] 4 x = some [.val (.ref 1), .val (planT p), .val (.lst ((rootsL p).map shT)), .val (shT s), .val x] := by
        rcases f4 with rfl | ⟨u, rfl⟩ <;> simp
      by_cases hm : (s.a + s.c) % 2 = 1 ∨ (s.b + s.d) % 2 = 1
      · exact ⟨_, _, h', e0, .inl (by simp [middle_spec, hm]), bb, s, _, hs, fr_v x, rfl⟩
      · obtain ⟨s1, s2, o1, o2, eh⟩ := half_ok s hs hm h'
        obtain ⟨k, h3, e3, k0, k1, b3⟩ := draw_b (m := 2) bb (by decide) (by decide)
        by_cases hk : k = 0
        · subst hk
          exact ⟨_, _, h3, e0, .inl (by simp [middle_spec, hm, eh, e3]), b3, s1, _, o1, fr_v x, rfl⟩
        · have hk1 : k = 1 := by omega
          subst hk1
          exact ⟨_, _, h3, e0, .inl (by simp [middle_spec, hm, eh, e3]), b3, s2, _, o2, fr_v x, rfl⟩) (rngL 0 i2.toNat).length 0
      [.val (.ref 1), .val (planT p), .val (.lst ((rootsL p).map shT)), .val (shT s0), .no] h2 (by omega) ⟨b2, s0, _, ok0, .inl rfl, rfl⟩
  obtain ⟨e', h4, qq, b4, s, x, hs, f4, rfl⟩ := loop
  refine ⟨s, h4, ?_, hs, b4⟩
  have hbig : big62 i2 = true := by
    unfold big62
    rw [decide_eq_true (show -(2 ^ 62) ≤ i2 by omega), decide_eq_true (show i2 < 2 ^ 62 by omega)]
    rfl
  have lt : ((rootsL p).map shT).length = (rootsL p).length := List.length_map _
  unfold v_law_shape m_law_shape
  simp [roots_spec p hp, e1]
  rw [hat]
  simp [e2, hbig, qq]
end K48
namespace K48
open PySem L2 Y
theorem view_head (A B : SM) (t spot l tt : T) (h h' : Hs) (e : A [.val (.ref 1), .val (.tup [t, spot, l]), .val t, .val spot, .val l] h = .nx [.val (.ref 1), .val (.tup [t, spot, l]), .val tt, .val spot, .val l] h') :
    (seqS (asgS (varM 1) (gTupM [2, 3, 4])) <| seqS A B) [.val (.ref 1), .val (.tup [t, spot, l]), .no, .no, .no] h = B [.val (.ref 1), .val (.tup [t, spot, l]), .val tt, .val spot, .val l] h' := by simp [e]
theorem view_b {rest h : Hs} (t : Tol) (p : Spot) (bs : List Box) (ht : t.ok) (hbs : ∀ b ∈ bs, b.t.ok) (hl : bs.length ≤ 1000) (hb : Bag rest h) : ∃ h', v_law_view [.ref 1, sightT t (spotT p) bs] h = .ok (viewT t (spotT p) (bs.map Box.nrm)) h' ∧ Bag rest h' := by
  have top : ∃ (tt : T) (h' : Hs), Bag rest h' ∧ (∀ g, v_as_share [tt] g = .ok (tolT t) g) ∧
      (ifS (andT (tst (opM eqF (opM ixF (varM 2) (cM (.int 1))) (cM (.int 1)))) (tst (opM eqF (callM 2 [] v_law_draw (acons (varM 0) (acons (cM (.int 2)) anil))) (cM (.int 0))))) (asgS (opM ixF (varM 2) (cM (.int 0))) (gOne 2)) nilS)
        [.val (.ref 1), .val (sightT t (spotT p) bs), .val (tolT t), .val (spotT p), .val (.lst (bs.map boxT))] h = .nx [.val (.ref 1), .val (sightT t (spotT p) bs), .val tt, .val (spotT p), .val (.lst (bs.map boxT))] h' := by
    by_cases h1 : t.d = 1
    · obtain ⟨i, h2, e2, _, _, b2⟩ := draw_b (m := 2) hb (by decide) (by decide)
      by_cases h0 : i = 0
      · subst h0
        refine ⟨.int t.n, h2, b2, fun g => ?_, by simp [sq_tol, h1, e2]⟩
        rw [share_int t.n ht.1]
        unfold tolT
        rw [h1]
      · exact ⟨tolT t, h2, b2, fun g => share_tol t ht g, by simp [sq_tol, h1, e2, h0]⟩
    · exact ⟨tolT t, h, hb, fun g => share_tol t ht g, by simp [sq_tol, h1]⟩
  obtain ⟨tt, h', b', hs, e⟩ := top
  refine ⟨h', ?_, b'⟩
  have st : sightT t (spotT p) bs = .tup [tolT t, spotT p, .lst (bs.map boxT)] := rfl
  rw [st] at e ⊢
  show ((m_law_view [.val (.ref 1), .val (.tup [tolT t, spotT p, .lst (bs.map boxT)]), .no, .no, .no] h).val) = _
  unfold m_law_view
  rw [view_head _ _ _ _ _ _ _ _ e]
  cases p with
  | none =>
    cases bs with
    | nil =>
      have i0 := init_spec t tt .non (.tup []) [] hbs (Nat.zero_le _) h' (hs h') rfl
      simp [-ev_mkF, -ev_fnS, i0, spotT]
    | cons b bs =>
      have i0 := init_spec t tt .non (.lst ((b :: bs).map boxT)) (b :: bs) hbs hl h' (hs h') rfl
      rw [List.map_cons] at i0
      have nz : ¬ (((bs.length : Nat) : Int) + 1 = 0) := by omega
      simp [-ev_mkF, -ev_fnS, i0, spotT, nz]
  | some q =>
    have hn : (spotT (some q)).isNon = false := rfl
    cases bs with
    | nil =>
      have i0 := init_spec t tt (spotT (some q)) (.tup []) [] hbs (Nat.zero_le _) h' (hs h') rfl
      simp [-ev_mkF, -ev_fnS, i0, hn]
    | cons b bs =>
      have i0 := init_spec t tt (spotT (some q)) (.tup ((b :: bs).map boxT)) (b :: bs) hbs hl h' (hs h') rfl
      rw [List.map_cons] at i0
      have nz : ¬ (((bs.length : Nat) : Int) + 1 = 0) := by omega
      simp [-ev_mkF, -ev_fnS, i0, hn, nz]
end K48
namespace K48
open PySem L2 Y
theorem boxes_pd (h : Hs) (b0 : Hs) (bs : List Box) (hl : bs.length ≤ 3) (hr : h[(2 : Nat)]? = some (.lst (bs.map boxT))) : eqF (.ref 2) (.lst (bs.map boxT)) h = .ok (.bl true) h := by
  have go : ∀ d, pds (bs.map boxT) = some d → SeqAt.shaped (.list d) = true → eqF (.ref 2) (.lst (bs.map boxT)) h = .ok (.bl true) h := fun d e sh => by
    have e1 : pdH h (.ref 2) = some (.list d) := by
      unfold pdH
      rw [lo_ref, hr]
      dsimp only
      rw [e]
      rfl
    have e2 : pdH h (.lst (bs.map boxT)) = some (.list d) := by
      unfold pdH
      rw [lo_lst]
      dsimp only
      rw [e]
      rfl
    exact eqF_same (fun a z => (by cases z)) e1 e2 sh
  rcases bs with _ | ⟨b1, _ | ⟨b2, _ | ⟨b3, _ | ⟨b4, r⟩⟩⟩⟩
  · exact go _ rfl rfl
  · exact go _ rfl rfl
  · exact go _ rfl rfl
  · exact go _ rfl rfl
  · simp at hl
theorem shapes_b {rest h : Hs} (p : Int × Int × Int) (hp : p ∈ plans) (a0 a3 a4 a5 a6 a7 a8 a9 a10 : Sl) (hb : Bag rest h) : ∃ (ss : List Sh) (h' : Hs),
    compM (rng1Src (cM (.int 6))) (gOne 10) tyes (callM 2 [] v_law_shape (acons (varM 1) (acons (varM 2) anil))) [10] [a0, .val (.ref 1), .val (planT p), a3, a4, a5, a6, a7, a8, a9, a10] h = .ok (.lst (ss.map shT)) h' ∧ (∀ s ∈ ss, s.ok) ∧ ss.length = 6 ∧ Bag rest h' := by
  obtain ⟨acc, h', q1, ss, rfl, hs, hl, hb'⟩ := comp_inv (rd := fun (_ : Hs) => some (rngL 0 6)) (g := gOne 10) (tt := tyes) (te := callM 2 [] v_law_shape (acons (varM 1) (acons (varM 2) anil))) (e := [a0, .val (.ref 1), .val (planT p), a3, a4, a5, a6, a7, a8, a9, .no]) (ys := rngL 0 6)
    (fun i acc h' => ∃ ss : List Sh, acc = ss.map shT ∧ (∀ s ∈ ss, s.ok) ∧ ss.length = i ∧ Bag rest h') (fun i acc h' _ => rfl) (fun i acc h' x q hx => by
      obtain ⟨ss, rfl, hs, hl, hb⟩ := q
      obtain ⟨s, h2, e2, ok, b2⟩ := shape_b p hp hb
      refine ⟨_, rfl, .inl ⟨h', shT s, h2, rfl, by simp [e2], ss ++ [s], by simp, fun z m => ?_, by rw [List.length_append, List.length_singleton, hl], b2⟩⟩
      rcases List.mem_append.mp m with m | m
      · exact hs z m
      · rw [List.mem_singleton] at m
        rw [m]; exact ok) 6 0 [] h rfl ⟨[], rfl, (fun s m => (by cases m)), rfl, hb⟩
  refine ⟨ss, h', ?_, hs, hl, hb'⟩
  rw [ev_comp]
  exact q1
theorem more_b {rest h : Hs} (P : T) (a0 a3 a4 a5 a6 a7 a8 a9 a10 : Sl) (hb : Bag rest h) : ∃ (bss : List (List Box)) (h' : Hs),
    compM (rng1Src (cM (.int 5))) (gOne 10) tyes (opM ixF (callM 2 [] v_law_sight (acons (varM 1) (acons (varM 2) anil))) (cM (.int 2))) [10] [a0, .val (.ref 1), .val P, a3, a4, a5, a6, a7, a8, a9, a10] h = .ok (.lst (bss.map fun bs => .lst (bs.map boxT))) h' ∧ (∀ bs ∈ bss, bs.length ≤ 3 ∧ ∀ b ∈ bs, b.t.ok) ∧ bss.length = 5 ∧ Bag rest h' := by
  obtain ⟨acc, h', q1, ss, rfl, hs, hl, hb'⟩ := comp_inv (rd := fun (_ : Hs) => some (rngL 0 5)) (g := gOne 10) (tt := tyes) (te := opM ixF (callM 2 [] v_law_sight (acons (varM 1) (acons (varM 2) anil))) (cM (.int 2))) (e := [a0, .val (.ref 1), .val P, a3, a4, a5, a6, a7, a8, a9, .no]) (ys := rngL 0 5)
    (fun i acc h' => ∃ ss : List (List Box), acc = ss.map (fun bs => T.lst (bs.map boxT)) ∧ (∀ bs ∈ ss, bs.length ≤ 3 ∧ ∀ b ∈ bs, b.t.ok) ∧ ss.length = i ∧ Bag rest h') (fun i acc h' _ => rfl) (fun i acc h' x q hx => by
      obtain ⟨ss, rfl, hs, hl, hb⟩ := q
      obtain ⟨t, sp, bs, h2, e2, _, _, ok, l3, b2⟩ := sight_b P hb
      refine ⟨_, rfl, .inl ⟨h', .lst (bs.map boxT), h2, rfl, by simp [e2, sq_sight], ss ++ [bs], by simp, fun z m => ?_, by rw [List.length_append, List.length_singleton, hl], b2⟩⟩
      rcases List.mem_append.mp m with m | m
      · exact hs z m
      · rw [List.mem_singleton] at m
        rw [m]; exact ⟨l3, ok⟩) 5 0 [] h rfl ⟨[], rfl, (fun s m => (by cases m)), rfl, hb⟩
  refine ⟨ss, h', ?_, hs, hl, hb'⟩
  rw [ev_comp]
  exact q1
theorem flat_map (h : Hs) : ∀ bss : List (List Box), flatOf h (bss.map fun bs => T.lst (bs.map boxT)) = some ((bss.flatMap id).map boxT)
  | [] => rfl
  | bs :: bss => by
    rw [List.map_cons, flatOf, lo_lst, flat_map h bss]
    simp
def eight : List Box := (List.range 8).map fun (k : Nat) => ⟨(k : Int) - 1, (k : Int) - 1, k, k, ⟨9 - (k : Int), 1⟩⟩
theorem eight_spec (h : Hs) (a0 a1 a2 a3 a4 a5 a6 a7 a8 a9 a10 : Sl) : compM (rng1Src (cM (.int 8))) (gOne 10) tyes (tupM (acons (opM subF (varM 10) (cM (.int 1))) (acons (opM subF (varM 10) (cM (.int 1))) (acons (varM 10) (acons (varM 10) (acons (tupM (acons (opM subF (cM (.int 9)) (varM 10)) (acons (cM (.int 1)) anil))) anil)))))) [10] [a0, a1, a2, a3, a4, a5, a6, a7, a8, a9, a10] h = .ok (.lst (eight.map boxT)) h := by
  kernel_rfl
theorem eight_ok : ∀ b ∈ eight, b.t.ok := by
  intro b hb
  simp only [eight, List.mem_map, List.mem_range] at hb
  obtain ⟨k, hk, rfl⟩ := hb
  unfold Tol.ok
  dsimp only
  omega
theorem seq_nx {A B : SM} {e e' : En} {h h' : Hs} (q : A e h = .nx e' h') : seqS A B e h = B e' h' := by rw [ev_seq, q, th_nx]
/-! ### the law -/
theorem law_true (ns : List Int) (hn : ns.length ≤ 63) : ∃ h', v_law [.scr ns] [] = .ok (.bl true) h' := by
  have e1 : v_law_bag [.scr ns] [] = .ok (.ref 1) (bg ns 0 7 []) := bag_spec ns hn
  have b1 : Bag [] (bg ns 0 7 []) := ⟨_, _, _, rfl⟩
  obtain ⟨p, h2, hp, e2', b2⟩ := plan_b b1
  have e2 : v_law_plan [.ref 1] (bg ns 0 7 []) = .ok (planT p) h2 := e2'
  obtain ⟨t, sp, bs, h3, e3, ht, hsp, hbs, hl, b3⟩ := sight_b (planT p) b2
  obtain ⟨ss, h4, e4, hss, l6, b4⟩ := shapes_b p hp (.val (.scr ns)) (.val (sightT t (spotT sp) bs)) .no .no .no .no .no .no .no b3
  obtain ⟨h5, e5, b5⟩ := view_b t sp bs ht hbs (by omega) b4
  have e6 := holds_spec t sp bs ss hbs hss hsp h5
  obtain ⟨c5, a5, s5, rfl⟩ := b5
  have e7 := init_spec t (tolT t) (spotT sp) (.ref 2) bs hbs (by omega) (bg c5 a5 s5 [.lst (bs.map boxT)]) (share_tol t ht _) rfl
  have e8 := boxes_pd (bg c5 a5 s5 [.lst (bs.map boxT)]) [] bs hl rfl
  have hf : bs.length < 16777216 := by omega
  have t0 : (asgS (callM 1 [] v_law_bag (acons (varM 0) anil)) (gOne 1)) [.val (.scr ns), .no, .no, .no, .no, .no, .no, .no, .no, .no, .no] [] = .nx [.val (.scr ns), .val (.ref 1), .no, .no, .no, .no, .no, .no, .no, .no, .no] (bg ns 0 7 []) := by simp [e1]
  have t1 : (asgS (callM 1 [] v_law_plan (acons (varM 1) anil)) (gOne 2)) [.val (.scr ns), .val (.ref 1), .no, .no, .no, .no, .no, .no, .no, .no, .no] (bg ns 0 7 []) = .nx [.val (.scr ns), .val (.ref 1), .val (planT p), .no, .no, .no, .no, .no, .no, .no, .no] h2 := by simp [e2]
  have t2 : (asgS (callM 2 [] v_law_sight (acons (varM 1) (acons (varM 2) anil))) (gOne 3)) [.val (.scr ns), .val (.ref 1), .val (planT p), .no, .no, .no, .no, .no, .no, .no, .no] h2 = .nx [.val (.scr ns), .val (.ref 1), .val (planT p), .val (sightT t (spotT sp) bs), .no, .no, .no, .no, .no, .no, .no] h3 := by simp [e3]
  have t3 : (asgS (compM (rng1Src (cM (.int 6))) (gOne 10) tyes (callM 2 [] v_law_shape (acons (varM 1) (acons (varM 2) anil))) [10]) (gOne 4)) [.val (.scr ns), .val (.ref 1), .val (planT p), .val (sightT t (spotT sp) bs), .no, .no, .no, .no, .no, .no, .no] h3 = .nx [.val (.scr ns), .val (.ref 1), .val (planT p), .val (sightT t (spotT sp) bs), .val (.lst (ss.map shT)), .no, .no, .no, .no, .no, .no] h4 := by simp [-ev_comp, e4]
  have t4 : (asgS (callM 3 [] v_law_holds (acons (callM 2 [] v_law_view (acons (varM 1) (acons (varM 3) anil))) (acons (varM 3) (acons (varM 4) anil)))) (gOne 5)) [.val (.scr ns), .val (.ref 1), .val (planT p), .val (sightT t (spotT sp) bs), .val (.lst (ss.map shT)), .no, .no, .no, .no, .no, .no] h4 = .nx [.val (.scr ns), .val (.ref 1), .val (planT p), .val (sightT t (spotT sp) bs), .val (.lst (ss.map shT)), .val (.bl true), .no, .no, .no, .no, .no] (bg c5 a5 s5 []) := by simp [-ev_fnS, e5, e6]
  have t5 : (asgS (allocM (callBM listF (acons (opM ixF (varM 3) (cM (.int 2))) anil))) (gOne 6)) [.val (.scr ns), .val (.ref 1), .val (planT p), .val (sightT t (spotT sp) bs), .val (.lst (ss.map shT)), .val (.bl true), .no, .no, .no, .no, .no] (bg c5 a5 s5 []) = .nx [.val (.scr ns), .val (.ref 1), .val (planT p), .val (sightT t (spotT sp) bs), .val (.lst (ss.map shT)), .val (.bl true), .val (.ref 2), .no, .no, .no, .no] (bg c5 a5 s5 [.lst (bs.map boxT)]) := by simp [sq_sight, bg]
  have t6 : (asgS (mkKM 0 4 1 2 (fun ts us => ts ++ us) (fnS 1 m_View___init__) (acons (opM ixF (varM 3) (cM (.int 0))) anil) (acons (opM ixF (varM 3) (cM (.int 1))) (acons (varM 6) anil))) (gOne 7)) [.val (.scr ns), .val (.ref 1), .val (planT p), .val (sightT t (spotT sp) bs), .val (.lst (ss.map shT)), .val (.bl true), .val (.ref 2), .no, .no, .no, .no] (bg c5 a5 s5 [.lst (bs.map boxT)]) = .nx [.val (.scr ns), .val (.ref 1), .val (planT p), .val (sightT t (spotT sp) bs), .val (.lst (ss.map shT)), .val (.bl true), .val (.ref 2), .val (viewT t (spotT sp) (bs.map Box.nrm)), .no, .no, .no] (bg c5 a5 s5 [.lst (bs.map boxT)]) := by simp [-ev_mkF, -ev_fnS, sq_sight, e7]
  have t7 : (asgS (andM (varM 5) (opM eqF (varM 6) (opM ixF (varM 3) (cM (.int 2))))) (gOne 5)) [.val (.scr ns), .val (.ref 1), .val (planT p), .val (sightT t (spotT sp) bs), .val (.lst (ss.map shT)), .val (.bl true), .val (.ref 2), .val (viewT t (spotT sp) (bs.map Box.nrm)), .no, .no, .no] (bg c5 a5 s5 [.lst (bs.map boxT)]) = .nx [.val (.scr ns), .val (.ref 1), .val (planT p), .val (sightT t (spotT sp) bs), .val (.lst (ss.map shT)), .val (.bl true), .val (.ref 2), .val (viewT t (spotT sp) (bs.map Box.nrm)), .no, .no, .no] (bg c5 a5 s5 [.lst (bs.map boxT)]) := by simp [sq_sight, e8]
  have t8 : (appC 6 (tupM (acons (opM subF (cM (.int 0)) (cM (.int 9))) (acons (opM subF (cM (.int 0)) (cM (.int 9))) (acons (cM (.int 99)) (acons (cM (.int 99)) (acons (tupM (acons (cM (.int 0)) (acons (cM (.int 1)) anil))) anil))))))) [.val (.scr ns), .val (.ref 1), .val (planT p), .val (sightT t (spotT sp) bs), .val (.lst (ss.map shT)), .val (.bl true), .val (.ref 2), .val (viewT t (spotT sp) (bs.map Box.nrm)), .no, .no, .no] (bg c5 a5 s5 [.lst (bs.map boxT)]) = .nx [.val (.scr ns), .val (.ref 1), .val (planT p), .val (sightT t (spotT sp) bs), .val (.lst (ss.map shT)), .val (.bl true), .val (.ref 2), .val (viewT t (spotT sp) (bs.map Box.nrm)), .no, .no, .no] (bg c5 a5 s5 [.lst (bs.map boxT ++ [T.tup [T.int (-9), T.int (-9), T.int 99, T.int 99, T.tup [T.int 0, T.int 1]]])]) := by simp [cell, putCell, bg, hf]
  have t9 : (revC 6) [.val (.scr ns), .val (.ref 1), .val (planT p), .val (sightT t (spotT sp) bs), .val (.lst (ss.map shT)), .val (.bl true), .val (.ref 2), .val (viewT t (spotT sp) (bs.map Box.nrm)), .no, .no, .no] (bg c5 a5 s5 [.lst (bs.map boxT ++ [T.tup [T.int (-9), T.int (-9), T.int 99, T.int 99, T.tup [T.int 0, T.int 1]]])]) = .nx [.val (.scr ns), .val (.ref 1), .val (planT p), .val (sightT t (spotT sp) bs), .val (.lst (ss.map shT)), .val (.bl true), .val (.ref 2), .val (viewT t (spotT sp) (bs.map Box.nrm)), .no, .no, .no] (bg c5 a5 s5 [.lst (bs.map boxT ++ [T.tup [T.int (-9), T.int (-9), T.int 99, T.int 99, T.tup [T.int 0, T.int 1]]]).reverse]) := by simp [cell, putCell, bg]
  have b9 : Bag [.lst (bs.map boxT ++ [T.tup [T.int (-9), T.int (-9), T.int 99, T.int 99, T.tup [T.int 0, T.int 1]]]).reverse] (bg c5 a5 s5 [.lst (bs.map boxT ++ [T.tup [T.int (-9), T.int (-9), T.int 99, T.int 99, T.tup [T.int 0, T.int 1]]]).reverse]) := ⟨c5, a5, s5, rfl⟩
  generalize (bg c5 a5 s5 [.lst (bs.map boxT ++ [T.tup [T.int (-9), T.int (-9), T.int 99, T.int 99, T.tup [T.int 0, T.int 1]]]).reverse]) = h9 at t9 b9
  have e10 := holds_spec t sp bs ss hbs hss hsp h9
  have t10 : (asgS (andM (varM 5) (callM 3 [] v_law_holds (acons (varM 7) (acons (varM 3) (acons (varM 4) anil))))) (gOne 5)) [.val (.scr ns), .val (.ref 1), .val (planT p), .val (sightT t (spotT sp) bs), .val (.lst (ss.map shT)), .val (.bl true), .val (.ref 2), .val (viewT t (spotT sp) (bs.map Box.nrm)), .no, .no, .no] h9 = .nx [.val (.scr ns), .val (.ref 1), .val (planT p), .val (sightT t (spotT sp) bs), .val (.lst (ss.map shT)), .val (.bl true), .val (.ref 2), .val (viewT t (spotT sp) (bs.map Box.nrm)), .no, .no, .no] h9 := by simp [e10]
  obtain ⟨bss, h11, e11, hbss, l5, b11⟩ := more_b (planT p) (.val (.scr ns)) (.val (sightT t (spotT sp) bs)) (.val (.lst (ss.map shT))) (.val (.bl true)) (.val (.ref 2)) (.val (viewT t (spotT sp) (bs.map Box.nrm))) .no .no .no b9
  have t11 : (asgS (compM (rng1Src (cM (.int 5))) (gOne 10) tyes (opM ixF (callM 2 [] v_law_sight (acons (varM 1) (acons (varM 2) anil))) (cM (.int 2))) [10]) (gOne 8)) [.val (.scr ns), .val (.ref 1), .val (planT p), .val (sightT t (spotT sp) bs), .val (.lst (ss.map shT)), .val (.bl true), .val (.ref 2), .val (viewT t (spotT sp) (bs.map Box.nrm)), .no, .no, .no] h9 = .nx [.val (.scr ns), .val (.ref 1), .val (planT p), .val (sightT t (spotT sp) bs), .val (.lst (ss.map shT)), .val (.bl true), .val (.ref 2), .val (viewT t (spotT sp) (bs.map Box.nrm)), .val (.lst (bss.map fun bs => .lst (bs.map boxT))), .no, .no] h11 := by simp [-ev_comp, e11]
  have lf : (bss.flatMap id).length ≤ 15 := by
    have key : ∀ l : List (List Box), (∀ bs ∈ l, bs.length ≤ 3 ∧ ∀ b ∈ bs, b.t.ok) → (l.flatMap id).length ≤ 3 * l.length := by
      intro l
      induction l with
      | nil => intro _; simp
      | cons a l ih =>
        intro hl
        have h1 := (hl a (List.mem_cons_self ..)).1
        have h2 := ih fun b hb => hl b (List.mem_cons_of_mem _ hb)
        rw [List.flatMap_cons, List.length_append, List.length_cons]
        simp only [id]
        omega
    have := key bss hbss
    omega
  have of : ∀ b ∈ bss.flatMap id, b.t.ok := fun b hb => by
    obtain ⟨l, hl, hm⟩ := List.mem_flatMap.mp hb
    exact (hbss l hl).2 b hm
  obtain ⟨l1, ls, rfl⟩ : ∃ l1 ls, bss = l1 :: ls := by
    cases bss with
    | nil => cases l5
    | cons a l => exact ⟨a, l, rfl⟩
  generalize hfl : (l1 :: ls).flatMap id = fl at lf of
  have fm : flatOf h11 ((l1 :: ls).map fun bs => T.lst (bs.map boxT)) = some (fl.map boxT) := by rw [flat_map, hfl]
  have ff : fl.length ≤ 16777216 := by omega
  have e12 : sumLF [.lst ((l1 :: ls).map fun bs => .lst (bs.map boxT)), .lst []] h11 = .ok (.lst (fl.map boxT)) h11 := by
    rw [List.map_cons] at fm ⊢
    have q : ∀ (t : T) (us : List T), sumLF [.lst (t :: us), .lst []] h11 = match flatOf h11 (t :: us) with | some xs => if fits ([] ++ xs).length then .ok (.lst ([] ++ xs)) h11 else .bad | none => .bad := fun _ _ => rfl
    rw [q, fm]
    simp [ff]
  have t12 : (asgS (callBM sumLF (acons (varM 8) (acons (lstM anil) anil))) (gOne 8)) [.val (.scr ns), .val (.ref 1), .val (planT p), .val (sightT t (spotT sp) bs), .val (.lst (ss.map shT)), .val (.bl true), .val (.ref 2), .val (viewT t (spotT sp) (bs.map Box.nrm)), .val (.lst ((l1 :: ls).map fun bs => .lst (bs.map boxT))), .no, .no] h11 = .nx [.val (.scr ns), .val (.ref 1), .val (planT p), .val (sightT t (spotT sp) bs), .val (.lst (ss.map shT)), .val (.bl true), .val (.ref 2), .val (viewT t (spotT sp) (bs.map Box.nrm)), .val (.lst (fl.map boxT)), .no, .no] h11 := by simp only [ev_asg, ev_callB, ev_cons, ev_nil, ev_lst, ev_var, List.getElem?_cons_succ, List.getElem?_cons_zero, Res.bind_ok, List.length_nil, ev_fits, Nat.zero_le, decide_true, if_true, e12, Res.go_ok]; rfl
  have e13 := eight_spec h11 (.val (.scr ns)) (.val (.ref 1)) (.val (planT p)) (.val (sightT t (spotT sp) bs)) (.val (.lst (ss.map shT))) (.val (.bl true)) (.val (.ref 2)) (.val (viewT t (spotT sp) (bs.map Box.nrm))) (.val (.lst (fl.map boxT))) .no .no
  have f8 : fl.length + 8 ≤ 16777216 := by omega
  have l8 : eight.length = 8 := rfl
  have t13 : (asgS (opM addF (varM 8) (compM (rng1Src (cM (.int 8))) (gOne 10) tyes (tupM (acons (opM subF (varM 10) (cM (.int 1))) (acons (opM subF (varM 10) (cM (.int 1))) (acons (varM 10) (acons (varM 10) (acons (tupM (acons (opM subF (cM (.int 9)) (varM 10)) (acons (cM (.int 1)) anil))) anil)))))) [10])) (gOne 8)) [.val (.scr ns), .val (.ref 1), .val (planT p), .val (sightT t (spotT sp) bs), .val (.lst (ss.map shT)), .val (.bl true), .val (.ref 2), .val (viewT t (spotT sp) (bs.map Box.nrm)), .val (.lst (fl.map boxT)), .no, .no] h11 = .nx [.val (.scr ns), .val (.ref 1), .val (planT p), .val (sightT t (spotT sp) bs), .val (.lst (ss.map shT)), .val (.bl true), .val (.ref 2), .val (viewT t (spotT sp) (bs.map Box.nrm)), .val (.lst ((fl ++ eight).map boxT)), .no, .no] h11 := by simp [-ev_comp, e13, f8, l8]
  have t14 : (asgS (tupM (acons (opM ixF (varM 3) (cM (.int 0))) (acons (opM ixF (varM 3) (cM (.int 1))) (acons (varM 8) anil)))) (gOne 3)) [.val (.scr ns), .val (.ref 1), .val (planT p), .val (sightT t (spotT sp) bs), .val (.lst (ss.map shT)), .val (.bl true), .val (.ref 2), .val (viewT t (spotT sp) (bs.map Box.nrm)), .val (.lst ((fl ++ eight).map boxT)), .no, .no] h11 = .nx [.val (.scr ns), .val (.ref 1), .val (planT p), .val (sightT t (spotT sp) (fl ++ eight)), .val (.lst (ss.map shT)), .val (.bl true), .val (.ref 2), .val (viewT t (spotT sp) (bs.map Box.nrm)), .val (.lst ((fl ++ eight).map boxT)), .no, .no] h11 := by simp [sq_sight, sightT]
  have o2 : ∀ b ∈ fl ++ eight, b.t.ok := fun b hb => by
    rcases List.mem_append.mp hb with hb | hb
    · exact of b hb
    · exact eight_ok b hb
  have e15 := init_spec t (tolT t) (spotT sp) (.lst ((fl ++ eight).map boxT)) (fl ++ eight) o2 (by rw [List.length_append, l8]; omega) h11 (share_tol t ht _) rfl
  generalize fl ++ eight = fe at *
  have t15 : (asgS (mkKM 0 4 1 2 (fun ts us => ts ++ us.reverse) (fnS 1 m_View___init__) (acons (opM ixF (varM 3) (cM (.int 0))) anil) (acons (varM 8) (acons (opM ixF (varM 3) (cM (.int 1))) anil))) (gOne 7)) [.val (.scr ns), .val (.ref 1), .val (planT p), .val (sightT t (spotT sp) fe), .val (.lst (ss.map shT)), .val (.bl true), .val (.ref 2), .val (viewT t (spotT sp) (bs.map Box.nrm)), .val (.lst (fe.map boxT)), .no, .no] h11 = .nx [.val (.scr ns), .val (.ref 1), .val (planT p), .val (sightT t (spotT sp) fe), .val (.lst (ss.map shT)), .val (.bl true), .val (.ref 2), .val (viewT t (spotT sp) (fe.map Box.nrm)), .val (.lst (fe.map boxT)), .no, .no] h11 := by simp [-ev_mkF, -ev_fnS, sq_sight, e15]
  have e16 := holds_spec t sp fe ss o2 hss hsp h11
  have t16 : (asgS (andM (varM 5) (callM 3 [] v_law_holds (acons (varM 7) (acons (varM 3) (acons (varM 4) anil))))) (gOne 5)) [.val (.scr ns), .val (.ref 1), .val (planT p), .val (sightT t (spotT sp) fe), .val (.lst (ss.map shT)), .val (.bl true), .val (.ref 2), .val (viewT t (spotT sp) (fe.map Box.nrm)), .val (.lst (fe.map boxT)), .no, .no] h11 = .nx [.val (.scr ns), .val (.ref 1), .val (planT p), .val (sightT t (spotT sp) fe), .val (.lst (ss.map shT)), .val (.bl true), .val (.ref 2), .val (viewT t (spotT sp) (fe.map Box.nrm)), .val (.lst (fe.map boxT)), .no, .no] h11 := by simp [e16]
  have e17 : mkF 0 4 (fnS 1 m_View___init__) [.int 7, .non, .lst [.tup [.int 0, .int 0, .int 99, .int 99, .int 3]]] h11 = .ok (viewT ⟨7, 1⟩ .non ([⟨0, 0, 99, 99, ⟨3, 1⟩⟩].map Box.nrm)) h11 := by kernel_rfl
  have t17 : (asgS (mkKM 0 4 1 1 (fun ts us => ts ++ ([.non] ++ us)) (fnS 1 m_View___init__) (acons (cM (.int 7)) anil) (acons (lstM (acons (tupM (acons (cM (.int 0)) (acons (cM (.int 0)) (acons (cM (.int 99)) (acons (cM (.int 99)) (acons (cM (.int 3)) anil)))))) anil)) anil)) (gOne 9)) [.val (.scr ns), .val (.ref 1), .val (planT p), .val (sightT t (spotT sp) fe), .val (.lst (ss.map shT)), .val (.bl true), .val (.ref 2), .val (viewT t (spotT sp) (fe.map Box.nrm)), .val (.lst (fe.map boxT)), .no, .no] h11 = .nx [.val (.scr ns), .val (.ref 1), .val (planT p), .val (sightT t (spotT sp) fe), .val (.lst (ss.map shT)), .val (.bl true), .val (.ref 2), .val (viewT t (spotT sp) (fe.map Box.nrm)), .val (.lst (fe.map boxT)), .val (viewT ⟨7, 1⟩ .non ([⟨0, 0, 99, 99, ⟨3, 1⟩⟩].map Box.nrm)), .no] h11 := by simp [-ev_mkF, -ev_fnS, -List.map_cons, -List.map_nil, e17]
  obtain ⟨s0, sr, rfl⟩ : ∃ a l, ss = a :: l := by
    cases ss with
    | nil => cases l6
    | cons a l => exact ⟨a, l, rfl⟩
  obtain ⟨⟨x0, x1⟩, ⟨y0, y1⟩, ⟨x2, x3⟩, ⟨y2, y3⟩, ⟨x4, x5⟩, ⟨y4, y5⟩⟩ := hss s0 (List.mem_cons_self ..)
  have e18 := limit_spec ⟨7, 1⟩ .non [⟨0, 0, 99, 99, ⟨3, 1⟩⟩] s0 (by intro b hb; rw [List.mem_singleton] at hb; subst hb; unfold Tol.ok; decide) h11
  have e19 : limR ⟨7, 1⟩ [⟨0, 0, 99, 99, ⟨3, 1⟩⟩] s0 = ⟨3, 1⟩ := by
    have ht : touch (Box.nrm ⟨0, 0, 99, 99, ⟨3, 1⟩⟩) s0 = true := by
      unfold touch Box.nrm
      simp
      omega
    unfold limR lim1
    simp [ht]
  rw [e19] at e18
  have e20 := same_tol ⟨3, 1⟩ h11
  have e21 := same_tol ⟨7, 1⟩ h11
  have e22 := fld_tol ⟨7, 1⟩ .non ([⟨0, 0, 99, 99, ⟨3, 1⟩⟩].map Box.nrm) h11
  have e23 := ins_view ⟨7, 1⟩ .non ([⟨0, 0, 99, 99, ⟨3, 1⟩⟩].map Box.nrm) h11
  generalize viewT ⟨7, 1⟩ .non ([⟨0, 0, 99, 99, ⟨3, 1⟩⟩].map Box.nrm) = vw at *
  have t18 : (retS (andM (varM 5) (andM (callM 2 [] (v_law_same 3) (acons (methM 0 "limit" 2 [] v_View_limit (varM 9) (acons (opM ixF (varM 4) (cM (.int 0))) anil)) (acons (tupM (acons (cM (.int 3)) (acons (cM (.int 1)) anil))) anil))) (callM 2 [] (v_law_same 3) (acons (fldM 0 "tolerance" (varM 9)) (acons (tupM (acons (cM (.int 7)) (acons (cM (.int 1)) anil))) anil)))))) [.val (.scr ns), .val (.ref 1), .val (planT p), .val (sightT t (spotT sp) fe), .val (.lst ((s0 :: sr).map shT)), .val (.bl true), .val (.ref 2), .val (viewT t (spotT sp) (fe.map Box.nrm)), .val (.lst (fe.map boxT)), .val (vw), .no] h11 = .rt (.bl true) [.val (.scr ns), .val (.ref 1), .val (planT p), .val (sightT t (spotT sp) fe), .val (.lst ((s0 :: sr).map shT)), .val (.bl true), .val (.ref 2), .val (viewT t (spotT sp) (fe.map Box.nrm)), .val (.lst (fe.map boxT)), .val (vw), .no] h11 := by
    unfold tolT at e18 e20 e21 e22
    simp [e23, ks1, e18, e20, e21, e22]
  refine ⟨h11, ?_⟩
  show (m_law [.val (.scr ns), .no, .no, .no, .no, .no, .no, .no, .no, .no, .no] []).val = _
  unfold m_law
  rw [seq_nx t0, seq_nx t1, seq_nx t2, seq_nx t3, seq_nx t4, seq_nx t5, seq_nx t6, seq_nx t7, seq_nx t8, seq_nx t9, seq_nx t10, seq_nx t11, seq_nx t12, seq_nx t13, seq_nx t14, seq_nx t15, seq_nx t16, seq_nx t17, t18, val_rt]
end K48
namespace K48
open PySem PySem.Spec PyProof.Rows L2 Y
abbrev R : PySem.W.OpenRow := PySem.W.OpenLaw.row PySem.Challenge.rw_braemantle_k48_limits_and_distances
def names : List PySem.Str := (["_wall", "__name__", "LandError", "BadView", "is_whole", "less", "as_share", "as_box", "touches", "View", "_law_whole", "_law_same", "_law_bag", "_law_draw", "_law_plan", "_law_roots", "_law_middle", "_law_halves", "_law_corners_of", "_law_low", "_law_tolerance", "_law_sight", "_law_limit", "_law_far", "_law_shape", "_law_view", "_law_holds"] : List PySem.Str)
abbrev hk : PySem.W.Hook := hookX 6 exQ fa fns
def ob (s : PySem.W.SharedT) : Bool × He.AlD := obsXG 6 exQ fa fns (HandSHeadRun.getT s)
theorem ob_eq (s : PySem.W.SharedT) : ob s = hk.obs s.abs := obsXG_eq (HandSHeadRun.getT_eq s)
theorem run (w : World) : HandSHeadRun.RunEq R (PySem.W.view R.prog [31]) hk ob 4000 names w := by
  intro os
  kernel_rfl
end K48
open PySem PySem.W PySem.Calls PyProof.Rows
theorem PySem.Challenge.cw_braemantle_k48_limits_and_distances_holds : PySem.Challenge.rw_braemantle_k48_limits_and_distances.Holds := by
  w_on; o_law
  refine HandSHeadRun.head_any (r := OpenLaw.row PySem.Challenge.rw_braemantle_k48_limits_and_distances) (q := view (OpenLaw.row PySem.Challenge.rw_braemantle_k48_limits_and_distances).prog [31]) (H := K48.hk) (ob := K48.ob) (M := 4000) (loose := K48.names) (d := HandSHeadRun.topDef (OpenLaw.row PySem.Challenge.rw_braemantle_k48_limits_and_distances).prog 31) (kwd := []) K48.ob_eq
    (by kernel_rfl) (fun s => by kernel_rfl) K48.run (by kernel_rfl) (by kernel_rfl) (by kernel_rfl) (by rfl) (by first | assumption | decide +kernel) (by decide +kernel) ⟨rfl, rfl, rfl, rfl, rfl, by decide +kernel⟩ ?hw ?hc
  case hw => w_witness2
  case hc =>
    refine Y.walk_ofY (l := PySem.Challenge.rw_braemantle_k48_limits_and_distances) (n := 63) (k := 7) (x := "_law_script") rfl (by decide) (by kernel_rfl) ⟨rfl, by decide, by decide⟩ ?F
    intro w mg fa h Y G hmg0
    obtain ⟨K, KX, c, ex⟩ := Y
    have hmg : mg ("law" : PySem.Str) = some (.ref fa) := by
      have e : (HandSHeadRun.topDef (OpenLaw.row PySem.Challenge.rw_braemantle_k48_limits_and_distances).prog 31).name = ("law" : PySem.Str) := by kernel_rfl
      rw [← e]
      exact hmg0
    have Z := K48.facts_of KX G c ex
    have e := hmg.symm.trans (Z.glo "law" (by decide +kernel))
    cases e
    obtain ⟨fd, F0⟩ := Z.fn 25 K48.d_law rfl
    have bd := L2.FunD.bindsA (ps := ["_law_script"]) F0 fun _ _ _ _ _ _ us hl => match us, hl with | [_], _ => rfl
    exact ⟨K, fd, K48.tb K, K48.v_law, KX, rfl, fun s v => bd s [v] rfl, K48.law_true, fun base _ _ => (Y.fn_okD F0 K48.sc_law fun _ _ _ _ _ _ _ _ _ _ hr tk => K48.w_law Z hr tk).imp (Y.sp_vals fun _ _ _ => rfl)⟩
#print axioms PySem.Challenge.cw_braemantle_k48_limits_and_distances_holds
