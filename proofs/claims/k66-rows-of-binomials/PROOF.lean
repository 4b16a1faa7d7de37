import PyProof.Rows.All
import Wide.All
import OpenK.AllK
import Wide.FinOn
import KE.KStateDown
import Lean
import HandS.ForMost
import HandS.ForExc
import HandS.IsInst
import HandS.Wide
import HandS.WideBits
import HandS.Defaults
import HandS.CallSlots
import HandS.Flow
import HandS.Head0
import HandS.Head1
import HandS.Head2
import HandS.HeadEnd
import HandS.HeadHook1
import HandS.HeadHook2
import HandS.HeadHook3
import HandS.HeadHook4
import HandS.RaiseMore
import HandS.ExcValue
import HandS.ExcField
import HandS.ExcInit
import HandS.ExcSuper
import KE.KExcSuper
import KE.KSuper
import KE.KExcLine
import KE.KExcIs
import HandS.EndBits
import KE.IntBitsLaws
import PySem.Challenge.RW_skipcounts_k66_rows_of_binomials
set_option Elab.async false
set_option linter.all false
set_option maxRecDepth 100000
set_option maxHeartbeats 4000000
/-! DL, part a: data without a heap (D), how a value in a heap stands for a datum (Dt), environments (Ev, EnvOk), results (Rz, Rs). -/
namespace DL
open PySem PySem.Spec PyProof.Rows L2

/-! ### data -/
inductive D where
  | non
  | bl (b : Bool)
  | int (i : Int)
  | str (x : Str)
  | lst (xs : List D)
  | tup (xs : List D)
  | dic (kvs : List (Key × D))
  | ins (c : Str) (fs : List (Str × D))
  | exn (c : Str) (x : D)
  /-- a list that is known to the object: the script, a list of the module's -/
  | fro (xs : List D)

/-- an exception object of the class cls with its own dict at dd, standing at a -/
def ExH (a : Addr) (cls : Value) (dd : Addr) : HO := .ext fun h => ∃ (oe : Obj) (vs : Array Value), h.get? a = some oe ∧ Zc cls (some dd) oe ∧ oe.data = .fields vs

mutual
inductive Dt (K : PySem.W.Frag) (H : Hp) : V → D → Prop
  | non : Dt K H .non .non
  | bl (b : Bool) : Dt K H (.bl b) (.bl b)
  | int (i : Int) : Dt K H (.int i) (.int i)
  | str (x : Str) : Dt K H (.str x) (.str x)
  | lst {a : Addr} {vs : List V} {ds : List D} : H a = some (.lst vs) → DtAll K H vs ds → Dt K H (.ref a) (.lst ds)
  | fro {a : Addr} {vs : List V} {ds : List D} : SqL K H a vs → DtAll K H vs ds → Dt K H (.ref a) (.fro ds)
  | tup {a : Addr} {vs : List V} {ds : List D} : SqT K H a vs → DtAll K H vs ds → Dt K H (.ref a) (.tup ds)
  | dic {a : Addr} {kvs : List (Key × V)} {ds : List (Key × D)} : H a = some (.dK kvs) → DtKv K H kvs ds → Dt K H (.ref a) (.dic ds)
  | ins {a dx : Addr} {c : Str} {fs : List (Str × V)} {ds : List (Str × D)} : H a = some (.ins (He.ga K c) dx fs) → DtFs K H fs ds → Dt K H (.ref a) (.ins c ds)
  | exn {a dd : Addr} {c : Str} {v : V} {x : D} : H a = some (ExH a (.ref (He.ga K c)) dd) → H dd = some (.xd [(("value" : Str), v)]) → Dt K H v x → Dt K H (.ref a) (.exn c x)
inductive DtAll (K : PySem.W.Frag) (H : Hp) : List V → List D → Prop
  | nil : DtAll K H [] []
  | cons {v : V} {vs : List V} {d : D} {ds : List D} : Dt K H v d → DtAll K H vs ds → DtAll K H (v :: vs) (d :: ds)
inductive DtKv (K : PySem.W.Frag) (H : Hp) : List (Key × V) → List (Key × D) → Prop
  | nil : DtKv K H [] []
  | cons {k : Key} {v : V} {vs : List (Key × V)} {d : D} {ds : List (Key × D)} : Dt K H v d → DtKv K H vs ds → DtKv K H ((k, v) :: vs) ((k, d) :: ds)
inductive DtFs (K : PySem.W.Frag) (H : Hp) : List (Str × V) → List (Str × D) → Prop
  | nil : DtFs K H [] []
  | cons {k : Str} {v : V} {vs : List (Str × V)} {d : D} {ds : List (Str × D)} : Dt K H v d → DtFs K H vs ds → DtFs K H ((k, v) :: vs) ((k, d) :: ds)
end

theorem same_t {K : PySem.W.Frag} {H H' : Hp} {a : Addr} {xs : List V} (e : Same H H') (h : SqT K H a xs) : SqT K H' a xs := by
  rcases h with (h | ⟨o, h⟩) | h
  · exact .inl (.inl (e _ _ h))
  · exact .inl (.inr ⟨o, e _ _ h⟩)
  · exact .inr h

mutual
theorem Dt.mono {K : PySem.W.Frag} {H H' : Hp} (e : Same H H') : ∀ {v : V} {d : D}, Dt K H v d → Dt K H' v d
  | _, _, .non => .non
  | _, _, .bl b => .bl b
  | _, _, .int i => .int i
  | _, _, .str x => .str x
  | _, _, .lst h t => .lst (e _ _ h) (DtAll.mono e t)
  | _, _, .fro h t => .fro (e.seq h) (DtAll.mono e t)
  | _, _, .tup h t => .tup (same_t e h) (DtAll.mono e t)
  | _, _, .dic h t => .dic (e _ _ h) (DtKv.mono e t)
  | _, _, .ins h t => .ins (e _ _ h) (DtFs.mono e t)
  | _, _, .exn h g t => .exn (e _ _ h) (e _ _ g) (Dt.mono e t)
theorem DtAll.mono {K : PySem.W.Frag} {H H' : Hp} (e : Same H H') : ∀ {vs : List V} {ds : List D}, DtAll K H vs ds → DtAll K H' vs ds
  | _, _, .nil => .nil
  | _, _, .cons h t => .cons (Dt.mono e h) (DtAll.mono e t)
theorem DtKv.mono {K : PySem.W.Frag} {H H' : Hp} (e : Same H H') : ∀ {vs : List (Key × V)} {ds : List (Key × D)}, DtKv K H vs ds → DtKv K H' vs ds
  | _, _, .nil => .nil
  | _, _, .cons h t => .cons (Dt.mono e h) (DtKv.mono e t)
theorem DtFs.mono {K : PySem.W.Frag} {H H' : Hp} (e : Same H H') : ∀ {vs : List (Str × V)} {ds : List (Str × D)}, DtFs K H vs ds → DtFs K H' vs ds
  | _, _, .nil => .nil
  | _, _, .cons h t => .cons (Dt.mono e h) (DtFs.mono e t)
end

section
variable {K : PySem.W.Frag} {H : Hp}
theorem DtAll.length : ∀ {vs : List V} {ds : List D}, DtAll K H vs ds → vs.length = ds.length
  | _, _, .nil => rfl
  | _, _, .cons _ t => congrArg (· + 1) (DtAll.length t)
theorem DtAll.get : ∀ {vs : List V} {ds : List D} {i : Nat} {d : D}, DtAll K H vs ds → ds[i]? = some d → ∃ v, vs[i]? = some v ∧ Dt K H v d
  | _, _, _, _, .nil, e => by simp at e
  | _, _, 0, _, .cons h _, e => by simp at e; subst e; exact ⟨_, rfl, h⟩
  | _, _, i + 1, d, .cons _ t, e => by
    obtain ⟨v, h1, h2⟩ := DtAll.get (i := i) (d := d) t (by simpa using e)
    exact ⟨v, by simpa using h1, h2⟩
theorem DtAll.getV : ∀ {vs : List V} {ds : List D} {i : Nat} {v : V}, DtAll K H vs ds → vs[i]? = some v → ∃ d, ds[i]? = some d ∧ Dt K H v d
  | _, _, _, _, .nil, e => by simp at e
  | _, _, 0, _, .cons h _, e => by simp at e; subst e; exact ⟨_, rfl, h⟩
  | _, _, i + 1, v, .cons _ t, e => by
    obtain ⟨d, h1, h2⟩ := DtAll.getV (i := i) (v := v) t (by simpa using e)
    exact ⟨d, by simpa using h1, h2⟩
theorem DtAll.append : ∀ {vs ws : List V} {ds es : List D}, DtAll K H vs ds → DtAll K H ws es → DtAll K H (vs ++ ws) (ds ++ es)
  | _, _, _, _, .nil, h => h
  | _, _, _, _, .cons a t, h => .cons a (DtAll.append t h)
theorem DtAll.take : ∀ {vs : List V} {ds : List D} (n : Nat), DtAll K H vs ds → DtAll K H (vs.take n) (ds.take n)
  | _, _, 0, _ => .nil
  | _, _, _ + 1, .nil => .nil
  | _, _, n + 1, .cons a t => .cons a (DtAll.take n t)
theorem DtAll.drop : ∀ {vs : List V} {ds : List D} (n : Nat), DtAll K H vs ds → DtAll K H (vs.drop n) (ds.drop n)
  | _, _, 0, h => h
  | _, _, _ + 1, .nil => .nil
  | _, _, n + 1, .cons _ t => DtAll.drop n t
theorem DtAll.dropLast : ∀ {vs : List V} {ds : List D}, DtAll K H vs ds → DtAll K H vs.dropLast ds.dropLast := fun {vs ds} h => by
  rw [List.dropLast_eq_take, List.dropLast_eq_take, h.length]
  exact h.take _
theorem DtAll.set {v : V} {d : D} (a : Dt K H v d) : ∀ {vs : List V} {ds : List D} (i : Nat), DtAll K H vs ds → DtAll K H (vs.set i v) (ds.set i d)
  | _, _, _, .nil => .nil
  | _, _, 0, .cons _ t => .cons a t
  | _, _, i + 1, .cons q t => .cons q (DtAll.set a i t)
theorem DtAll.reverse : ∀ {vs : List V} {ds : List D}, DtAll K H vs ds → DtAll K H vs.reverse ds.reverse
  | _, _, .nil => .nil
  | _, _, .cons a t => by
    rw [List.reverse_cons, List.reverse_cons]
    exact (DtAll.reverse t).append (.cons a .nil)
theorem DtAll.ints : ∀ ns : List Int, DtAll K H (ns.map V.int) (ns.map D.int)
  | [] => .nil
  | n :: r => .cons (.int n) (DtAll.ints r)
theorem DtAll.ints_eq : ∀ {vs : List V} {ns : List Int}, DtAll K H vs (ns.map D.int) → vs = ns.map V.int
  | _, [], h => by cases h; rfl
  | _, n :: r, h => by
    cases h with
    | cons a t =>
      cases a
      rw [DtAll.ints_eq t]
      rfl
end

/-! ### slots, environments -/
inductive Sl where
  | un
  | dat (d : D)
  | own (io : Bool) (xs : List D)
abbrev Ev := List Sl

/-- a def's frame: what its caller lets stand (S0), the heap at its entry (H0), the lists that it may change (slot, address) -/
structure Fm where
  S0 : Hp
  H0 : Hp
  G : List (Nat × Addr)
  /-- lists that are being made, not yet in a slot -/
  R : Addr → Prop := fun _ => False
  HR : Hp := fun _ => none

def SlOk (K : PySem.W.Frag) (F : Fm) (S H : Hp) (i : Nat) (o : Option V) : Sl → Prop
  | .un => True
  | .dat d => ∃ v, o = some v ∧ Dt K S v d
  | .own false xs => ∃ p vs, o = some (.ref p) ∧ H p = some (.lst vs) ∧ S p = none ∧ DtAll K S vs xs ∧ F.H0 p = none
  | .own true xs => ∃ p vs, o = some (.ref p) ∧ H p = some (.lst vs) ∧ S p = none ∧ DtAll K S vs xs ∧ (i, p) ∈ F.G

/-- the slots own a list -/
def Own (env : Ev) (σ : L2.St) (i : Nat) (p : Addr) : Prop := (∃ a xs, env[i]? = some (.own a xs)) ∧ σ[i]? = some (some (.ref p))

/-- what was tracked and not let stand is not let stand -/
def Av (S H S' : Hp) : Prop := ∀ b, H b ≠ none → S b = none → S' b = none

structure EnvOk (K : PySem.W.Frag) (F : Fm) (S : Hp) (σ : L2.St) (H : Hp) (env : Ev) : Prop where
  len : σ.length = env.length
  sub : Same S H
  frame : ∀ b o, (∀ q ∈ F.G, q.2 ≠ b) → F.H0 b = some o → H b = some o
  grow : Same F.S0 S
  avoid : Av F.S0 F.H0 S
  slot : ∀ i s o, env[i]? = some s → σ[i]? = some o → SlOk K F S H i o s
  inj : ∀ i j p, i ≠ j → Own env σ i p → ¬ Own env σ j p
  io : ∀ q ∈ F.G, σ[q.1]? = some (some (.ref q.2)) ∧ ∃ xs, env[q.1]? = some (.own true xs)
  gin : ∀ q ∈ F.G, F.H0 q.2 ≠ none ∧ F.S0 q.2 = none
  prot : ∀ b, F.R b → H b = F.HR b ∧ F.HR b ≠ none ∧ S b = none ∧ ∀ i, ¬ Own env σ i b

theorem same_upd {H : Hp} {p : Addr} {o : HO} (h : H p = none) : Same H (upd H p o) := fun b x e => by
  rw [upd_ne (ne_of_none e h)]
  exact e
theorem same_upd_of {S H : Hp} {p : Addr} {o : HO} (e : Same S H) (h : S p = none) : Same S (upd H p o) := fun b x q => by
  rw [upd_ne (ne_of_none q h)]
  exact e b x q
theorem same_upd2 {S H : Hp} {p : Addr} {o : HO} (e : Same S H) : Same (upd S p o) (upd H p o) := fun b x q => by
  by_cases hb : b = p
  · subst hb
    rw [upd_same] at q ⊢
    exact q
  · rw [upd_ne hb] at q ⊢
    exact e b x q
theorem none_of_same {S H : Hp} {p : Addr} (e : Same S H) (h : H p = none) : S p = none := e.free h
theorem some_ne {H : Hp} {p : Addr} {o : HO} (h : H p = some o) : H p ≠ none := by rw [h]; exact fun z => by cases z
theorem Av.trans {S H S1 H1 S2 : Hp} (a : Av S H S1) (k : ∀ b, H b ≠ none → H1 b ≠ none) (b : Av S1 H1 S2) : Av S H S2 := fun x h n => b x (k x h) (a x h n)
theorem Same.there {H H' : Hp} (e : Same H H') : ∀ b, H b ≠ none → H' b ≠ none := fun b h => by
  cases q : H b with
  | none => exact absurd q h
  | some o => exact some_ne (e b o q)

section
variable {K : PySem.W.Frag} {F : Fm} {S S' H H' : Hp} {σ : L2.St} {env : Ev} {i : Nat} {p : Addr}
theorem EnvOk.ownAt (E : EnvOk K F S σ H env) (h : Own env σ i p) : ∃ a xs vs, env[i]? = some (.own a xs) ∧ H p = some (.lst vs) ∧ S p = none ∧ DtAll K S vs xs ∧ (F.H0 p = none ∨ (i, p) ∈ F.G) := by
  obtain ⟨⟨a, xs, e⟩, e2⟩ := h
  have q := E.slot i _ _ e e2
  cases a with
  | false =>
    obtain ⟨p', vs, h1, h2, h3, h4, h5⟩ := q
    cases h1
    exact ⟨_, _, _, e, h2, h3, h4, .inl h5⟩
  | true =>
    obtain ⟨p', vs, h1, h2, h3, h4, h5⟩ := q
    cases h1
    exact ⟨_, _, _, e, h2, h3, h4, .inr h5⟩
theorem EnvOk.there (E : EnvOk K F S σ H env) : ∀ b, F.H0 b ≠ none → H b ≠ none := fun b h => by
  by_cases hg : ∀ q ∈ F.G, q.2 ≠ b
  · cases q : F.H0 b with
    | none => exact absurd q h
    | some o => exact some_ne (E.frame b o hg q)
  · have ⟨q, hq, e⟩ : ∃ q ∈ F.G, q.2 = b := by
      apply Classical.byContradiction
      intro z
      exact hg fun q hq e => z ⟨q, hq, e⟩
    subst e
    obtain ⟨h1, xs, h2⟩ := E.io q hq
    obtain ⟨_, _, vs, _, h3, _⟩ := E.ownAt (i := q.1) ⟨⟨_, _, h2⟩, h1⟩
    exact some_ne h3
theorem EnvOk.mono (E : EnvOk K F S σ H env) (s : Same S S') (t : Same H H') (u : Same S' H') (v : Av S H S') : EnvOk K F S' σ H' env where
  len := E.len
  sub := u
  frame := fun b o hg h => t b o (E.frame b o hg h)
  grow := E.grow.trans s
  avoid := fun b h n => v b (E.there b h) (E.avoid b h n)
  slot := fun i x o h1 h2 => by
    have q := E.slot i x o h1 h2
    cases x with
    | un => trivial
    | dat d =>
      obtain ⟨v, e, h⟩ := q
      exact ⟨v, e, h.mono s⟩
    | own a xs =>
      cases a with
      | false =>
        obtain ⟨p, vs, e1, e2, e3, e4, e5⟩ := q
        exact ⟨p, vs, e1, t _ _ e2, v p (some_ne e2) e3, e4.mono s, e5⟩
      | true =>
        obtain ⟨p, vs, e1, e2, e3, e4, e5⟩ := q
        exact ⟨p, vs, e1, t _ _ e2, v p (some_ne e2) e3, e4.mono s, e5⟩
  inj := E.inj
  io := E.io
  gin := E.gin
  prot := fun b h => by
    obtain ⟨h1, h2, h3, h4⟩ := E.prot b h
    have h5 : H b ≠ none := by rw [h1]; exact h2
    refine ⟨?_, h2, v b h5 h3, h4⟩
    cases q : H b with
    | none => exact absurd q h5
    | some o => rw [t b o q, ← h1, q]
/-- a list at p that no slot owns and that is new to the def -/
structure NewL (K : PySem.W.Frag) (F : Fm) (S H : Hp) (σ : L2.St) (env : Ev) (p : Addr) (xs : List D) : Prop where
  at_ : ∃ vs, H p = some (.lst vs) ∧ DtAll K S vs xs
  off : S p = none
  new : F.H0 p = none
  apart : ∀ i, ¬ Own env σ i p
  nr : ¬ F.R p
theorem EnvOk.noR (E : EnvOk K F S σ H env) (h : H p = none) : ¬ F.R p := fun r => by
  obtain ⟨h1, h2, _⟩ := E.prot p r
  rw [h] at h1
  exact h2 h1.symm
theorem EnvOk.newOf (E : EnvOk K F S σ H env) (h : H p = none) : F.H0 p = none ∧ ∀ i, ¬ Own env σ i p := by
  refine ⟨?_, fun i q => ?_⟩
  · apply Classical.byContradiction
    intro z
    exact E.there p z h
  · obtain ⟨_, _, _, _, h2, _⟩ := E.ownAt q
    rw [h] at h2
    cases h2
theorem NewL.mono {xs : List D} (N : NewL K F S H σ env p xs) (s : Same S S') (t : Same H H') (v : Av S H S') : NewL K F S' H' σ env p xs :=
  let ⟨vs, h1, h2⟩ := N.at_
  ⟨⟨vs, t _ _ h1, h2.mono s⟩, v p (some_ne h1) N.off, N.new, N.apart, N.nr⟩
/-- a new list is let stand -/
theorem NewL.stand {xs : List D} (N : NewL K F S H σ env p xs) (E : EnvOk K F S σ H env) : ∃ S', Same S S' ∧ (∀ b, b ≠ p → S b = none → S' b = none) ∧ EnvOk K F S' σ H env ∧ Dt K S' (.ref p) (.lst xs) := by
  obtain ⟨vs, h1, h2⟩ := N.at_
  have s : Same S (upd S p (.lst vs)) := same_upd N.off
  refine ⟨upd S p (.lst vs), s, fun b hb n => by rw [upd_ne hb]; exact n, ⟨E.len, fun b o e => ?_, E.frame, E.grow.trans s, fun b h n => ?_, fun i x o e1 e2 => ?_, E.inj, E.io, E.gin, fun b hb => ?_⟩, .lst upd_same (h2.mono s)⟩
  · by_cases hb : b = p
    · subst hb
      rw [upd_same] at e
      cases e
      exact h1
    · rw [upd_ne hb] at e
      exact E.sub b o e
  · have hb : b ≠ p := fun z => by
      subst z
      exact h N.new
    rw [upd_ne hb]
    exact E.avoid b h n
  · have q := E.slot i x o e1 e2
    cases x with
    | un => trivial
    | dat d =>
      obtain ⟨v, e, h⟩ := q
      exact ⟨v, e, h.mono s⟩
    | own a xs =>
      have np : ∀ p', o = some (.ref p') → p' ≠ p := fun p' z zz => by
        subst z zz
        exact N.apart i ⟨⟨_, _, e1⟩, e2⟩
      cases a with
      | false =>
        obtain ⟨p', vs', e1, e2, e3, e4, e5⟩ := q
        exact ⟨p', vs', e1, e2, by rw [upd_ne (np p' e1)]; exact e3, e4.mono s, e5⟩
      | true =>
        obtain ⟨p', vs', e1, e2, e3, e4, e5⟩ := q
        exact ⟨p', vs', e1, e2, by rw [upd_ne (np p' e1)]; exact e3, e4.mono s, e5⟩
  · obtain ⟨h1, h2, h3, h4⟩ := E.prot b hb
    refine ⟨h1, h2, ?_, h4⟩
    rw [upd_ne (fun z => N.nr (by rw [← z]; exact hb))]
    exact h3

/-- slot i gets s; a list of the caller's stays where it is -/
def put (i : Nat) (s : Sl) (env : Ev) : Option Ev :=
  match env[i]? with
  | some (.own true _) => none
  | some _ => some (env.set i s)
  | none => none
theorem put_some {s : Sl} {env' : Ev} (h : put i s env = some env') : i < env.length ∧ env' = env.set i s ∧ ∀ xs, env[i]? ≠ some (.own true xs) := by
  unfold put at h
  cases q : env[i]? with
  | none => rw [q] at h; cases h
  | some x =>
    have hi : i < env.length := (List.getElem?_eq_some_iff.mp q).1
    rw [q] at h
    cases x with
    | un => cases h; exact ⟨hi, rfl, fun _ z => by cases z⟩
    | dat d => cases h; exact ⟨hi, rfl, fun _ z => by cases z⟩
    | own a xs =>
      cases a with
      | false => cases h; exact ⟨hi, rfl, fun _ z => by cases z⟩
      | true => cases h
theorem EnvOk.put {s : Sl} {o : Option V} {env' : Ev} (E : EnvOk K F S σ H env) (h : put i s env = some env') (ok : SlOk K F S H i o s) (ap : ∀ a xs p, s = .own a xs → o = some (.ref p) → (∀ j, ¬ Own env σ j p) ∧ ¬ F.R p) :
    EnvOk K F S (σ.set i o) H env' := by
  obtain ⟨hi, rfl, no⟩ := put_some h
  have his : i < σ.length := by rw [E.len]; exact hi
  have other : ∀ {j p}, j ≠ i → (Own (env.set i s) (σ.set i o) j p ↔ Own env σ j p) := fun {j p} hj => by
    unfold Own
    rw [List.getElem?_set_ne (Ne.symm hj), List.getElem?_set_ne (Ne.symm hj)]
  refine ⟨by rw [List.length_set, List.length_set]; exact E.len, E.sub, E.frame, E.grow, E.avoid, fun j x y h1 h2 => ?_, fun j k p hjk h1 h2 => ?_, fun q hq => ?_, E.gin, fun b hb => ?_⟩
  · by_cases hj : j = i
    · subst hj
      rw [List.getElem?_set_self hi] at h1
      rw [List.getElem?_set_self his] at h2
      cases h1
      cases h2
      exact ok
    · rw [List.getElem?_set_ne (Ne.symm hj)] at h1 h2
      exact E.slot j x y h1 h2
  · have self : ∀ {p}, Own (env.set i s) (σ.set i o) i p → ∀ k, ¬ Own env σ k p := fun {p} z k => by
      obtain ⟨⟨a, xs, z1⟩, z2⟩ := z
      rw [List.getElem?_set_self hi] at z1
      rw [List.getElem?_set_self his] at z2
      cases z1
      cases z2
      exact (ap a xs p rfl rfl).1 k
    by_cases hj : j = i
    · subst hj
      exact self h1 k ((other (Ne.symm hjk)).mp h2)
    · by_cases hk : k = i
      · subst hk
        exact self h2 j ((other hj).mp h1)
      · exact E.inj j k p hjk ((other hj).mp h1) ((other hk).mp h2)
  · obtain ⟨h1, xs, h2⟩ := E.io q hq
    have hq : q.1 ≠ i := fun z => by
      rw [z] at h2
      exact no xs h2
    rw [List.getElem?_set_ne (Ne.symm hq), List.getElem?_set_ne (Ne.symm hq)]
    exact ⟨h1, xs, h2⟩
  · obtain ⟨h1, h2, h3, h4⟩ := E.prot b hb
    refine ⟨h1, h2, h3, fun j z => ?_⟩
    by_cases hj : j = i
    · subst hj
      obtain ⟨⟨a, xs, z1⟩, z2⟩ := z
      rw [List.getElem?_set_self hi] at z1
      rw [List.getElem?_set_self his] at z2
      cases z1
      cases z2
      exact (ap a xs b rfl rfl).2 hb
    · exact h4 j ((other hj).mp z)
theorem EnvOk.putDat {d : D} {v : V} {env' : Ev} (E : EnvOk K F S σ H env) (h : DL.put i (.dat d) env = some env') (hd : Dt K S v d) : EnvOk K F S (σ.set i (some v)) H env' :=
  E.put h ⟨v, rfl, hd⟩ fun _ _ _ z => by cases z
theorem EnvOk.putNew {xs : List D} {env' : Ev} (E : EnvOk K F S σ H env) (h : DL.put i (.own false xs) env = some env') (N : NewL K F S H σ env p xs) : EnvOk K F S (σ.set i (some (.ref p))) H env' := by
  obtain ⟨vs, h1, h2⟩ := N.at_
  refine E.put h ⟨p, vs, rfl, h1, N.off, h2, N.new⟩ fun a ys q _ z => ?_
  cases z
  exact ⟨N.apart, N.nr⟩
theorem EnvOk.putUn {o : Option V} {env' : Ev} (E : EnvOk K F S σ H env) (h : DL.put i .un env = some env') : EnvOk K F S (σ.set i o) H env' :=
  E.put h trivial fun _ _ _ z => by cases z
/-- an own list is changed -/
theorem EnvOk.change {a : Bool} {xs ys : List D} {ws : List V} (E : EnvOk K F S σ H env) (h : env[i]? = some (.own a xs)) (hp : σ[i]? = some (some (.ref p))) (hw : DtAll K S ws ys) : EnvOk K F S σ (upd H p (.lst ws)) (env.set i (.own a ys)) := by
  have hi : i < env.length := (List.getElem?_eq_some_iff.mp h).1
  obtain ⟨a', xs', vs, q0, q1, q2, q3, q4⟩ := E.ownAt (i := i) (p := p) ⟨⟨_, _, h⟩, hp⟩
  have own : ∀ {j q}, Own (env.set i (.own a ys)) σ j q ↔ Own env σ j q := fun {j q} => by
    unfold Own
    by_cases hj : j = i
    · subst hj
      rw [List.getElem?_set_self hi]
      exact ⟨fun z => ⟨⟨_, _, h⟩, z.2⟩, fun z => ⟨⟨_, _, rfl⟩, z.2⟩⟩
    · rw [List.getElem?_set_ne (Ne.symm hj)]
  refine ⟨by rw [List.length_set]; exact E.len, fun b o e => ?_, fun b o hg e => ?_, E.grow, E.avoid, fun j x o h1 h2 => ?_, fun j k q hjk z1 z2 => E.inj j k q hjk (own.mp z1) (own.mp z2), fun q hq => ?_, E.gin, fun b hb => ?_⟩
  · rw [upd_ne (ne_of_none e q2)]
    exact E.sub b o e
  · have hb : b ≠ p := fun z => by
      subst z
      rcases q4 with q4 | q4
      · rw [q4] at e; cases e
      · exact hg _ q4 rfl
    rw [upd_ne hb]
    exact E.frame b o hg e
  · by_cases hj : j = i
    · subst hj
      rw [List.getElem?_set_self hi] at h1
      cases h1
      rw [hp] at h2
      cases h2
      have q := E.slot j _ _ h hp
      cases a with
      | false =>
        obtain ⟨p', vs', e1, e2, e3, e4, e5⟩ := q
        cases e1
        exact ⟨p, ws, rfl, upd_same, q2, hw, e5⟩
      | true =>
        obtain ⟨p', vs', e1, e2, e3, e4, e5⟩ := q
        cases e1
        exact ⟨p, ws, rfl, upd_same, q2, hw, e5⟩
    · rw [List.getElem?_set_ne (Ne.symm hj)] at h1
      have q := E.slot j x o h1 h2
      cases x with
      | un => trivial
      | dat d => exact q
      | own b zs =>
        have np : ∀ p', o = some (.ref p') → p' ≠ p := fun p' z zz => by
          subst z zz
          exact E.inj j i p' hj ⟨⟨_, _, h1⟩, h2⟩ ⟨⟨_, _, h⟩, hp⟩
        cases b with
        | false =>
          obtain ⟨p', vs', e1, e2, e3, e4, e5⟩ := q
          exact ⟨p', vs', e1, by rw [upd_ne (np p' e1)]; exact e2, e3, e4, e5⟩
        | true =>
          obtain ⟨p', vs', e1, e2, e3, e4, e5⟩ := q
          exact ⟨p', vs', e1, by rw [upd_ne (np p' e1)]; exact e2, e3, e4, e5⟩
  · obtain ⟨h1, zs, h2⟩ := E.io q hq
    refine ⟨h1, ?_⟩
    by_cases hj : q.1 = i
    · rw [hj] at h2 ⊢
      rw [h] at h2
      cases h2
      rw [List.getElem?_set_self hi]
      exact ⟨_, rfl⟩
    · rw [List.getElem?_set_ne (Ne.symm hj)]
      exact ⟨zs, h2⟩
  · obtain ⟨h1, h2, h3, h4⟩ := E.prot b hb
    have hbp : b ≠ p := fun z => h4 i (by rw [z]; exact ⟨⟨_, _, h⟩, hp⟩)
    exact ⟨by rw [upd_ne hbp]; exact h1, h2, h3, fun j z => h4 j (own.mp z)⟩
/-- an own list is let stand from now on -/
theorem EnvOk.freeze {xs : List D} (E : EnvOk K F S σ H env) (h : env[i]? = some (.own false xs)) (hp : σ[i]? = some (some (.ref p))) :
    ∃ S', Same S S' ∧ EnvOk K F S' σ H (env.set i (.dat (.lst xs))) ∧ Dt K S' (.ref p) (.lst xs) := by
  have hi : i < env.length := (List.getElem?_eq_some_iff.mp h).1
  obtain ⟨p', vs, e1, e2, e3, e4, e5⟩ := E.slot i _ _ h hp
  cases e1
  have E1 : EnvOk K F S (σ.set i (some (.ref p))) H (env.set i .un) := E.put (s := .un) (by unfold DL.put; rw [h]) trivial fun _ _ _ z => by cases z
  have hs : σ.set i (some (.ref p)) = σ := by
    refine List.ext_getElem? fun j => ?_
    by_cases hj : j = i
    · subst hj
      rw [List.getElem?_set_self (by rw [E.len]; exact hi), hp]
    · rw [List.getElem?_set_ne (Ne.symm hj)]
  rw [hs] at E1
  have N : NewL K F S H σ (env.set i .un) p xs := ⟨⟨vs, e2, e4⟩, e3, e5, fun j ⟨⟨a, zs, z1⟩, z2⟩ => by
    by_cases hj : j = i
    · subst hj
      rw [List.getElem?_set_self hi] at z1
      cases z1
    · rw [List.getElem?_set_ne (Ne.symm hj)] at z1
      exact E.inj j i p hj ⟨⟨_, _, z1⟩, z2⟩ ⟨⟨_, _, h⟩, hp⟩, fun r => (E.prot p r).2.2.2 i ⟨⟨_, _, h⟩, hp⟩⟩
  obtain ⟨S', s, _, E2, hd⟩ := N.stand E1
  have E3 := E2.putDat (i := i) (v := .ref p) (d := .lst xs) (env' := env.set i (.dat (.lst xs))) (by
    unfold DL.put
    rw [List.getElem?_set_self hi]
    simp) hd
  rw [hs] at E3
  exact ⟨S', s, E3, hd⟩
end
end DL
set_option Elab.async false
set_option linter.all false
set_option maxRecDepth 100000
set_option maxHeartbeats 4000000
/-! DL, part b: results, what a reading does to data (Sim), the judgements QE, QT, QA, QN, QX, QS and their rules. -/
namespace DL
open PySem PySem.Spec PyProof.Rows L2

/-! ### results -/
inductive Rz (α : Type) where
  | ok (a : α) (e : Ev)
  | ex (c : Str) (x : D) (e : Ev)
  | no
def Rz.bind {α β : Type} (r : Rz α) (k : α → Ev → Rz β) : Rz β := match r with
  | .ok a e => k a e
  | .ex c x e => .ex c x e
  | .no => .no
def Rz.holds {α : Type} (r : Rz α) (P : α → Ev → Prop) (X : Str → D → Ev → Prop) : Prop := match r with
  | .ok a e => P a e
  | .ex c x e => X c x e
  | .no => False
theorem Rz.imp {α : Type} {r : Rz α} {P P' : α → Ev → Prop} {X X' : Str → D → Ev → Prop} (h : r.holds P X) (hp : ∀ a e, P a e → P' a e) (hx : ∀ c x e, X c x e → X' c x e) : r.holds P' X' := by
  cases r with
  | ok a e => exact hp a e h
  | ex c x e => exact hx c x e h
  | no => exact h
theorem Rz.bind_holds {α β : Type} {r : Rz α} {k : α → Ev → Rz β} {P : β → Ev → Prop} {X : Str → D → Ev → Prop} (h : (r.bind k).holds P X) : r.holds (fun a e => (k a e).holds P X) X := by
  cases r with
  | ok a e => exact h
  | ex c x e => exact h
  | no => exact h
def oz {α : Type} (o : Option α) (e : Ev) : Rz α := match o with
  | some a => .ok a e
  | none => .no
theorem oz_holds {α : Type} {o : Option α} {e : Ev} {P : α → Ev → Prop} {X : Str → D → Ev → Prop} (h : (oz o e).holds P X) : ∃ a, o = some a ∧ P a e := by
  cases o with
  | some a => exact ⟨a, rfl, h⟩
  | none => exact h.elim

/-- an exception's class, its field -/
def XOk (K : PySem.W.Frag) (S : Hp) (c : Str) (x : D) (cls : Value) (d : Option Addr) : Prop := cls = .ref (He.ga K c) ∧ ∃ (d0 : Addr) (v : V), d = some d0 ∧ S d0 = some (.xd [(("value" : Str), v)]) ∧ Dt K S v x

/-- the heap grew; what was not let stand is not let stand -/
structure Gr (S H S' H' : Hp) : Prop where
  same : Same H H'
  av : Av S H S'
theorem Gr.refl (S H : Hp) : Gr S H S H := ⟨Same.refl _, fun _ _ n => n⟩
theorem Gr.trans {S H S1 H1 S2 H2 : Hp} (a : Gr S H S1 H1) (b : Gr S1 H1 S2 H2) : Gr S H S2 H2 := ⟨a.same.trans b.same, a.av.trans (Same.there a.same) b.av⟩
theorem Gr.none {S H S' H' : Hp} (g : Gr S H S' H') {r : Addr} (h : H' r = none) : H r = none := g.same.free h
section
variable (K : PySem.W.Frag) (F : Fm) (W : WX)
def ExW (S : Hp) (σ : L2.St) (c : Str) (x : D) (e : Ev) : Prop := ∀ S' H' cls dd, Same S S' → EnvOk K F S' σ H' e → XOk K S' c x cls dd → W cls dd σ H'
/-- an expression: a datum that stands -/
def SimE (p : Bool) (te : TE) (de : Ev → Rz D) : Prop := ∀ S σ H env Q, EnvOk K F S σ H env →
  (de env).holds (fun d e => ∀ S' H' v, Same S S' → (p = true → Gr S H S' H') → EnvOk K F S' σ H' e → Dt K S' v d → Q v H') (ExW K F W S σ) → te σ H Q
/-- read alone: a datum as it stands now, the slots as they are -/
def SimR (te : TE) (de : Ev → Rz D) : Prop := ∀ S σ H env Q, EnvOk K F S σ H env →
  (de env).holds (fun d _ => ∀ S' H' v, Same S S' → Gr S H S' H' → EnvOk K F S' σ H' env → Dt K H' v d → Q v H') (ExW K F W S σ) → te σ H Q
/-- a new list -/
def SimN (p : Bool) (te : TE) (dn : Ev → Rz (List D)) : Prop := ∀ S σ H env Q, EnvOk K F S σ H env →
  (dn env).holds (fun xs e => ∀ S' H' q, Same S S' → (p = true → Gr S H S' H' ∧ H q = none) → EnvOk K F S' σ H' e → NewL K F S' H' σ e q xs → Q (.ref q) H') (ExW K F W S σ) → te σ H Q
def SimT (p : Bool) (tt : TT) (dt : Ev → Rz Bool) : Prop := ∀ S σ H env Q, EnvOk K F S σ H env →
  (dt env).holds (fun b e => ∀ S' H', Same S S' → (p = true → Gr S H S' H') → EnvOk K F S' σ H' e → Q b H') (ExW K F W S σ) → tt σ H Q
def SimA (p : Bool) (ta : TA) (da : Ev → Rz (List D)) : Prop := ∀ S σ H env Q, EnvOk K F S σ H env →
  (da env).holds (fun ds e => ∀ S' H' vs, Same S S' → (p = true → Gr S H S' H') → EnvOk K F S' σ H' e → DtAll K S' vs ds → Q vs H') (ExW K F W S σ) → ta σ H Q
def SimAR (ta : TA) (da : Ev → Rz (List D)) : Prop := ∀ S σ H env Q, EnvOk K F S σ H env →
  (da env).holds (fun ds _ => ∀ S' H' vs, Same S S' → Gr S H S' H' → EnvOk K F S' σ H' env → DtAll K H' vs ds → Q vs H') (ExW K F W S σ) → ta σ H Q
/-- for a slot: a datum that stands, or a new list -/
def SimX (p : Bool) (te : TE) (dx : Ev → Rz Sl) : Prop := ∀ S σ H env Q, EnvOk K F S σ H env →
  (dx env).holds (fun s e => ∀ S' H' v, Same S S' → (p = true → Gr S H S' H') → EnvOk K F S' σ H' e →
    (match s with | .un => True | .dat d => Dt K S' v d | .own false xs => ∃ q, v = .ref q ∧ NewL K F S' H' σ e q xs | .own true _ => False) → Q v H') (ExW K F W S σ) → te σ H Q
end

structure QE (X : Cx) (W : WX) (p : Bool) (e : Expr) (te : TE) (de : Ev → Rz D) : Prop where
  pe : PE X e te
  sim : ∀ F, SimE X.K F W p te de
structure QR (X : Cx) (W : WX) (e : Expr) (te : TE) (de : Ev → Rz D) : Prop where
  pe : PE X e te
  sim : ∀ F, SimR X.K F W te de
structure QN (X : Cx) (W : WX) (p : Bool) (e : Expr) (te : TE) (de : Ev → Rz (List D)) : Prop where
  pe : PE X e te
  sim : ∀ F, SimN X.K F W p te de
structure QT (X : Cx) (W : WX) (p : Bool) (e : Expr) (tt : TT) (dt : Ev → Rz Bool) : Prop where
  pt : PT X e tt
  sim : ∀ F, SimT X.K F W p tt dt
structure QW (X : Cx) (W : WX) (p : Bool) (e : Expr) (tt : TT) (dt : Ev → Rz Bool) : Prop where
  pw : PW X e tt
  sim : ∀ F, SimT X.K F W p tt dt
structure QA (X : Cx) (W : WX) (p : Bool) (es : List Expr) (ta : TA) (da : Ev → Rz (List D)) : Prop where
  pa : PA X es ta
  sim : ∀ F, SimA X.K F W p ta da
structure QAR (X : Cx) (W : WX) (es : List Expr) (ta : TA) (da : Ev → Rz (List D)) : Prop where
  pa : PA X es ta
  sim : ∀ F, SimAR X.K F W ta da
structure QX (X : Cx) (W : WX) (p : Bool) (e : Expr) (te : TE) (dx : Ev → Rz Sl) : Prop where
  pe : PE X e te
  sim : ∀ F, SimX X.K F W p te dx

section
variable {K : PySem.W.Frag} {F : Fm} {W : WX} {S S' : Hp} {σ : L2.St}
theorem ExW.mono {c : Str} {x : D} {e : Ev} (s : Same S S') (h : ExW K F W S σ c x e) : ExW K F W S' σ c x e := fun S2 H2 cls dd s2 E2 xo => h S2 H2 cls dd (s.trans s2) E2 xo
theorem tr2 {p : Bool} {S S1 S2 H H1 H2 : Hp} (a : p = true → Gr S H S1 H1) (b : p = true → Gr S1 H1 S2 H2) : p = true → Gr S H S2 H2 := fun z => (a z).trans (b z)
theorem av_of {H H' : Hp} : Av H H H' := fun _ h n => absurd n h
end

/-! ### the combinators on data -/
def dVar (i : Nat) (e : Ev) : Rz D := match e[i]? with
  | some (.dat d) => .ok d e
  | _ => .no
/-- a list of the def's own, from now on a datum -/
def dFix (i : Nat) (e : Ev) : Rz D := match e[i]? with
  | some (.own false xs) => .ok (.lst xs) (e.set i (.dat (.lst xs)))
  | _ => .no
/-- a list of the def's own, read -/
def dSee (i : Nat) (e : Ev) : Rz D := match e[i]? with
  | some (.own _ xs) => .ok (.lst xs) e
  | _ => .no
def dC (d : D) (e : Ev) : Rz D := .ok d e
def dOp (f : D → D → Option D) (a b : Ev → Rz D) (e : Ev) : Rz D := (a e).bind fun x e1 => (b e1).bind fun y e2 => oz (f x y) e2
def dUn (f : D → Option D) (a : Ev → Rz D) (e : Ev) : Rz D := (a e).bind fun x e1 => oz (f x) e1
def dNil (e : Ev) : Rz (List D) := .ok [] e
def dCons (a : Ev → Rz D) (r : Ev → Rz (List D)) (e : Ev) : Rz (List D) := (a e).bind fun x e1 => (r e1).bind fun xs e2 => .ok (x :: xs) e2
def dTst (a : Ev → Rz D) (e : Ev) : Rz Bool := (a e).bind fun x e1 => match x with
  | .bl b => .ok b e1
  | _ => .no
def dNotT (a : Ev → Rz Bool) (e : Ev) : Rz Bool := (a e).bind fun b e1 => .ok (!b) e1
def dAndT (a b : Ev → Rz Bool) (e : Ev) : Rz Bool := (a e).bind fun c e1 => if c = true then b e1 else .ok false e1
def dOrT (a b : Ev → Rz Bool) (e : Ev) : Rz Bool := (a e).bind fun c e1 => if c = true then .ok true e1 else b e1
def dAnd (a b : Ev → Rz D) (e : Ev) : Rz D := (a e).bind fun x e1 => match x with
  | .bl true => b e1
  | .bl false => .ok (.bl false) e1
  | _ => .no
def dOr (a b : Ev → Rz D) (e : Ev) : Rz D := (a e).bind fun x e1 => match x with
  | .bl true => .ok (.bl true) e1
  | .bl false => b e1
  | _ => .no
def dNot (a : Ev → Rz D) (e : Ev) : Rz D := (a e).bind fun x e1 => match x with
  | .bl b => .ok (.bl (!b)) e1
  | _ => .no
def dIfE (t : Ev → Rz Bool) (a b : Ev → Rz D) (e : Ev) : Rz D := (t e).bind fun c e1 => if c = true then a e1 else b e1
def dOfN (n : Ev → Rz (List D)) (e : Ev) : Rz D := (n e).bind fun xs e1 => .ok (.lst xs) e1
def dTupE (a : Ev → Rz (List D)) (e : Ev) : Rz D := (a e).bind fun xs e1 => if xs.length ≤ 1000000 then .ok (.tup xs) e1 else .no
def dLstE (a : Ev → Rz (List D)) (e : Ev) : Rz (List D) := (a e).bind fun xs e1 => if xs.length ≤ 1000000 then .ok xs e1 else .no

/-- what leaves the slots as they are -/
class Still (de : Ev → Rz D) : Prop where
  at_ : ∀ env d e', de env = .ok d e' → e' = env
class StillA (da : Ev → Rz (List D)) : Prop where
  at_ : ∀ env d e', da env = .ok d e' → e' = env
class Len (da : Ev → Rz (List D)) (n : outParam Nat) : Prop where
  at_ : ∀ env d e', da env = .ok d e' → d.length = n
theorem Rz.bind_ok {α β : Type} {r : Rz α} {k : α → Ev → Rz β} {b : β} {e : Ev} (h : r.bind k = .ok b e) : ∃ a e1, r = .ok a e1 ∧ k a e1 = .ok b e := by
  cases r with
  | ok a e1 => exact ⟨a, e1, rfl, h⟩
  | ex c x e1 => cases h
  | no => cases h
theorem oz_ok {α : Type} {o : Option α} {e e' : Ev} {a : α} (h : oz o e = .ok a e') : o = some a ∧ e' = e := by
  cases o with
  | none => cases h
  | some b => cases h; exact ⟨rfl, rfl⟩
instance still_var {i : Nat} : Still (dVar i) := ⟨fun env d e' h => by
  unfold dVar at h
  cases q : env[i]? with
  | none => rw [q] at h; cases h
  | some s => rw [q] at h; cases s <;> cases h; rfl⟩
instance still_see {i : Nat} : Still (dSee i) := ⟨fun env d e' h => by
  unfold dSee at h
  cases q : env[i]? with
  | none => rw [q] at h; cases h
  | some s => rw [q] at h; cases s <;> cases h; rfl⟩
instance still_c {d : D} : Still (dC d) := ⟨fun env x e' h => by cases h; rfl⟩
instance still_op {f : D → D → Option D} {a b : Ev → Rz D} [ha : Still a] [hb : Still b] : Still (dOp f a b) := ⟨fun env d e' h => by
  obtain ⟨x, e1, h1, h2⟩ := Rz.bind_ok h
  obtain ⟨y, e2, h3, h4⟩ := Rz.bind_ok h2
  obtain ⟨_, h5⟩ := oz_ok h4
  rw [h5, hb.at_ _ _ _ h3, ha.at_ _ _ _ h1]⟩
instance still_un {f : D → Option D} {a : Ev → Rz D} [ha : Still a] : Still (dUn f a) := ⟨fun env d e' h => by
  obtain ⟨x, e1, h1, h2⟩ := Rz.bind_ok h
  obtain ⟨_, h5⟩ := oz_ok h2
  rw [h5, ha.at_ _ _ _ h1]⟩
instance still_nil : StillA dNil := ⟨fun env x e' h => by cases h; rfl⟩
instance still_cons {a : Ev → Rz D} {r : Ev → Rz (List D)} [ha : Still a] [hr : StillA r] : StillA (dCons a r) := ⟨fun env d e' h => by
  obtain ⟨x, e1, h1, h2⟩ := Rz.bind_ok h
  obtain ⟨y, e2, h3, h4⟩ := Rz.bind_ok h2
  cases h4
  rw [hr.at_ _ _ _ h3, ha.at_ _ _ _ h1]⟩
instance len_nil : Len dNil 0 := ⟨fun env x e' h => by cases h; rfl⟩
instance len_cons {a : Ev → Rz D} {r : Ev → Rz (List D)} {n : Nat} [hr : Len r n] : Len (dCons a r) (n + 1) := ⟨fun env d e' h => by
  obtain ⟨x, e1, h1, h2⟩ := Rz.bind_ok h
  obtain ⟨y, e2, h3, h4⟩ := Rz.bind_ok h2
  cases h4
  rw [List.length_cons, hr.at_ _ _ _ h3]⟩
instance still_lst {a : Ev → Rz (List D)} [ha : StillA a] : StillA (dLstE a) := ⟨fun env d e' h => by
  obtain ⟨x, e1, h1, h2⟩ := Rz.bind_ok h
  split at h2
  · cases h2
    exact ha.at_ _ _ _ h1
  · cases h2⟩
instance still_ofN {a : Ev → Rz (List D)} [ha : StillA a] : Still (dOfN a) := ⟨fun env d e' h => by
  obtain ⟨x, e1, h1, h2⟩ := Rz.bind_ok h
  cases h2
  exact ha.at_ _ _ _ h1⟩
instance still_tup {a : Ev → Rz (List D)} [ha : StillA a] : Still (dTupE a) := ⟨fun env d e' h => by
  obtain ⟨x, e1, h1, h2⟩ := Rz.bind_ok h
  split at h2
  · cases h2
    exact ha.at_ _ _ _ h1
  · cases h2⟩

theorem size_ok {n : Nat} (h : n ≤ 1000000) : n ≤ sizeLine := Nat.le_trans h (by decide)

/-- what an operator's reading asks, on data that are read: no object is made -/
def OpD (K : PySem.W.Frag) (r : R2) (f : D → D → Option D) : Prop := ∀ (S H : Hp) (v w : V) (x y z : D) (Q : VK), Dt K H v x → Dt K H w y → f x y = some z → (∀ u, (∀ S, Dt K S u z) → Q u H) → r v w H Q
/-- the same, the answer a part of the first -/
def OpP (K : PySem.W.Frag) (r : R2) (f : D → D → Option D) : Prop := ∀ (S H : Hp) (v w : V) (x y z : D) (Q : VK), Same S H → Dt K S v x → Dt K S w y → f x y = some z → (∀ u, Dt K S u z → Q u H) → r v w H Q
theorem OpD.toP {K : PySem.W.Frag} {r : R2} {f : D → D → Option D} (h : OpD K r f) : OpP K r f := fun S H v w x y z Q s a b e k => h S H v w x y z Q (a.mono s) (b.mono s) e fun u hu => k u (hu S)
section
variable {X : Cx} {W : WX} {p : Bool}

/-! ### names, constants -/
theorem qe_var (i : Nat) {x : Str} {pos : Pos} (hN : X.N[i]? = some x := by rfl) (hv : Vis X.env.scope x := by first | exact Or.inl rfl | exact Or.inr (Or.inl rfl) | exact Or.inr (Or.inr rfl)) (hd : (x == ("__debug__" : Str)) = false := by decide)
    (hcd : (x == ("__classdict__" : Str)) = false := by decide) : QE X W p (.Name x pos) (tVar i) (dVar i) := by
  refine ⟨pe_var hN hv hd hcd, fun F S σ H env Q E h => ?_⟩
  unfold dVar at h
  cases q : env[i]? with
  | none => rw [q] at h; exact h.elim
  | some s =>
    rw [q] at h
    cases s with
    | un => exact h.elim
    | own a xs => exact h.elim
    | dat d =>
      have hi : i < σ.length := by rw [E.len]; exact (List.getElem?_eq_some_iff.mp q).1
      obtain ⟨v, e, hv⟩ := E.slot i _ _ q (List.getElem?_eq_getElem hi)
      exact ⟨v, by rw [List.getElem?_eq_getElem hi, e], h S H v (Same.refl _) (fun _ => Gr.refl _ _) E hv⟩
theorem qr_see (i : Nat) {x : Str} {pos : Pos} (hN : X.N[i]? = some x := by rfl) (hv : Vis X.env.scope x := by first | exact Or.inl rfl | exact Or.inr (Or.inl rfl) | exact Or.inr (Or.inr rfl)) (hd : (x == ("__debug__" : Str)) = false := by decide)
    (hcd : (x == ("__classdict__" : Str)) = false := by decide) : QR X W (.Name x pos) (tVar i) (dSee i) := by
  refine ⟨pe_var hN hv hd hcd, fun F S σ H env Q E h => ?_⟩
  unfold dSee at h
  cases q : env[i]? with
  | none => rw [q] at h; exact h.elim
  | some s =>
    rw [q] at h
    cases s with
    | un => exact h.elim
    | dat d => exact h.elim
    | own a xs =>
      have hi : i < σ.length := by rw [E.len]; exact (List.getElem?_eq_some_iff.mp q).1
      have z := E.slot i _ _ q (List.getElem?_eq_getElem hi)
      have ⟨r, vs, e1, e2, e3⟩ : ∃ r vs, σ[i] = some (.ref r) ∧ H r = some (.lst vs) ∧ DtAll X.K S vs xs := by
        cases a with
        | false => obtain ⟨r, vs, e1, e2, e3, e4, e5⟩ := z; exact ⟨r, vs, e1, e2, e4⟩
        | true => obtain ⟨r, vs, e1, e2, e3, e4, e5⟩ := z; exact ⟨r, vs, e1, e2, e4⟩
      exact ⟨.ref r, by rw [List.getElem?_eq_getElem hi, e1], h S H _ (Same.refl _) (Gr.refl _ _) E (.lst e2 (e3.mono E.sub))⟩
theorem qe_fix (i : Nat) {x : Str} {pos : Pos} (hN : X.N[i]? = some x := by rfl) (hv : Vis X.env.scope x := by first | exact Or.inl rfl | exact Or.inr (Or.inl rfl) | exact Or.inr (Or.inr rfl)) (hd : (x == ("__debug__" : Str)) = false := by decide)
    (hcd : (x == ("__classdict__" : Str)) = false := by decide) : QE X W false (.Name x pos) (tVar i) (dFix i) := by
  refine ⟨pe_var hN hv hd hcd, fun F S σ H env Q E h => ?_⟩
  unfold dFix at h
  cases q : env[i]? with
  | none => rw [q] at h; exact h.elim
  | some s =>
    rw [q] at h
    cases s with
    | un => exact h.elim
    | dat d => exact h.elim
    | own a xs =>
      cases a with
      | true => exact h.elim
      | false =>
        have hi : i < σ.length := by rw [E.len]; exact (List.getElem?_eq_some_iff.mp q).1
        obtain ⟨r, vs, e1, e2, e3⟩ := E.slot i _ _ q (List.getElem?_eq_getElem hi)
        have e0 : σ[i]? = some (some (.ref r)) := by rw [List.getElem?_eq_getElem hi, e1]
        obtain ⟨S', s', E', hd'⟩ := E.freeze q e0
        exact ⟨.ref r, e0, h S' H _ s' (fun z => nomatch z) E' hd'⟩
theorem qe_c {e : Expr} {v : V} {d : D} (h : PE X e (tC v)) (hd : ∀ S, Dt X.K S v d) : QE X W p e (tC v) (dC d) :=
  ⟨h, fun F S σ H env Q E q => q S H v (Same.refl _) (fun _ => Gr.refl _ _) E (hd S)⟩
theorem qe_int {i j pos} : QE X W p (.Constant (.int i) j pos) (tC (.int i)) (dC (.int i)) := qe_c pe_int fun _ => .int i
theorem qe_bl {b j pos} : QE X W p (.Constant (.bool b) j pos) (tC (.bl b)) (dC (.bl b)) := qe_c pe_bl fun _ => .bl b
theorem qe_non {j pos} : QE X W p (.Constant .none j pos) (tC .non) (dC .non) := qe_c pe_non fun _ => .non
theorem qe_str {x j pos} : QE X W p (.Constant (.str x) j pos) (tC (.str x)) (dC (.str x)) := qe_c pe_str fun _ => .str x

/-! ### from one to another -/
theorem QE.r {e : Expr} {te : TE} {de : Ev → Rz D} (h : QE X W true e te de) [u : Still de] : QR X W e te de :=
  ⟨h.pe, fun F S σ H env Q E q => h.sim F S σ H env Q E (by
    cases z : de env with
    | ok d e' =>
      rw [z] at q
      have ee := u.at_ _ _ _ z
      subst ee
      exact fun S' H' v s t E' hd => q S' H' v s (t rfl) E' (hd.mono E'.sub)
    | ex c x e' => rw [z] at q; exact q
    | no => rw [z] at q; exact q)⟩
theorem QN.e {e : Expr} {te : TE} {dn : Ev → Rz (List D)} (h : QN X W p e te dn) : QE X W p e te (dOfN dn) :=
  ⟨h.pe, fun F S σ H env Q E q => h.sim F S σ H env Q E (Rz.imp (Rz.bind_holds q) (fun xs e1 k S' H' r s t E' N => by
    obtain ⟨S2, s2, a2, E2, hd⟩ := N.stand E'
    exact k S2 H' _ (s.trans s2) (fun z => ⟨(t z).1.same, fun b hb n => a2 b (fun e => hb (by rw [e]; exact (t z).2)) ((t z).1.av b hb n)⟩) E2 hd) fun _ _ _ z => z)⟩
theorem QE.x {e : Expr} {te : TE} {de : Ev → Rz D} (h : QE X W p e te de) : QX X W p e te (fun e => (de e).bind fun d e1 => .ok (.dat d) e1) :=
  ⟨h.pe, fun F S σ H env Q E q => h.sim F S σ H env Q E (Rz.imp (Rz.bind_holds q) (fun d e1 k S' H' v s t E' hd => k S' H' v s t E' hd) fun _ _ _ z => z)⟩
theorem QN.x {e : Expr} {te : TE} {dn : Ev → Rz (List D)} (h : QN X W p e te dn) : QX X W p e te (fun e => (dn e).bind fun d e1 => .ok (.own false d) e1) :=
  ⟨h.pe, fun F S σ H env Q E q => h.sim F S σ H env Q E (Rz.imp (Rz.bind_holds q) (fun d e1 k S' H' r s t E' N => k S' H' _ s (fun z => (t z).1) E' ⟨r, rfl, N⟩) fun _ _ _ z => z)⟩

/-! ### operators -/
theorem sim_op {r : R2} {f : D → D → Option D} {ta tb : TE} {da db : Ev → Rz D} {K : PySem.W.Frag} {F : Fm} (hs : OpP K r f) (ha : SimE K F W p ta da) (hb : SimE K F W p tb db) : SimE K F W p (tOp r ta tb) (dOp f da db) := by
  intro S σ H env Q E q
  refine ha S σ H env _ E (Rz.imp (Rz.bind_holds q) (fun x e1 q1 S1 H1 v s1 t1 E1 d1 => ?_) fun _ _ _ z => z)
  refine hb S1 σ H1 e1 _ E1 (Rz.imp (Rz.bind_holds q1) (fun y e2 q2 S2 H2 w s2 t2 E2 d2 => ?_) fun _ _ _ z => z.mono s1)
  obtain ⟨z, ez, k⟩ := oz_holds q2
  exact hs S2 H2 v w x y z Q E2.sub (d1.mono s2) d2 ez fun u hu => k S2 H2 u (s1.trans s2) (tr2 t1 t2) E2 hu
theorem sim_opR {r : R2} {f : D → D → Option D} {ta tb : TE} {da db : Ev → Rz D} {K : PySem.W.Frag} {F : Fm} (hs : OpD K r f) (ha : SimR K F W ta da) (hb : SimR K F W tb db)
    (u : ∀ env d e', da env = .ok d e' → e' = env) (u' : ∀ env d e', db env = .ok d e' → e' = env) : SimE K F W p (tOp r ta tb) (dOp f da db) := by
  intro S σ H env Q E q
  have q' := Rz.bind_holds q
  refine ha S σ H env _ E ?_
  cases z : da env with
  | no => rw [z] at q'; exact q'
  | ex c x e => rw [z] at q'; exact q'
  | ok x e1 =>
    rw [z] at q'
    have ee := u _ _ _ z
    subst ee
    intro S1 H1 v s1 t1 E1 d1
    refine hb S1 σ H1 e1 _ E1 ?_
    have q2' := Rz.bind_holds (show ((db e1).bind fun y e2 => oz (f x y) e2).holds _ _ from q')
    cases z2 : db e1 with
    | no => rw [z2] at q2'; exact q2'
    | ex c x e => rw [z2] at q2'; exact ExW.mono s1 q2'
    | ok y e2 =>
      rw [z2] at q2'
      have ee2 := u' _ _ _ z2
      subst ee2
      intro S2 H2 w s2 t2 E2 d2
      obtain ⟨zz, ez, k⟩ := oz_holds q2'
      exact hs S2 H2 v w x y zz Q (d1.mono t2.same) d2 ez fun u hu => k S2 H2 u (s1.trans s2) (fun _ => t1.trans t2) E2 (hu S2)
theorem qe_op {op : Operator} {r : R2} {f : D → D → Option D} {a b : Expr} {ta tb : TE} {da db : Ev → Rz D} {pos : Pos} (ho : OpR X (binaryOp op) r) (hs : OpP X.K r f) (ha : QE X W p a ta da) (hb : QE X W p b tb db) :
    QE X W p (.BinOp a op b pos) (tOp r ta tb) (dOp f da db) := ⟨pe_op ho ha.pe hb.pe, fun F => sim_op hs (ha.sim F) (hb.sim F)⟩
theorem qe_cmp {op : CmpOp} {r : R2} {f : D → D → Option D} {a b : Expr} {ta tb : TE} {da db : Ev → Rz D} {pos : Pos} (ho : OpR X (compareOp op) r) (hs : OpP X.K r f) (ha : QE X W p a ta da) (hb : QE X W p b tb db) (hm : behindInMarks op b = false) :
    QE X W p (.Compare a [op] [b] pos) (tOp r ta tb) (dOp f da db) := ⟨pe_cmpR ho ha.pe hb.pe hm, fun F => sim_op hs (ha.sim F) (hb.sim F)⟩
theorem qe_cmpR {op : CmpOp} {r : R2} {f : D → D → Option D} {a b : Expr} {ta tb : TE} {da db : Ev → Rz D} {pos : Pos} (ho : OpR X (compareOp op) r) (hs : OpD X.K r f) (ha : QR X W a ta da) (hb : QR X W b tb db) [u : Still da] [u' : Still db] (hm : behindInMarks op b = false) :
    QE X W p (.Compare a [op] [b] pos) (tOp r ta tb) (dOp f da db) := ⟨pe_cmpR ho ha.pe hb.pe hm, fun F => sim_opR hs (ha.sim F) (hb.sim F) u.at_ u'.at_⟩
theorem qe_un {op : UnaryOp} {r : V → Hp → VK → Prop} {f : D → Option D} {a : Expr} {ta : TE} {da : Ev → Rz D} {pos : Pos} (ho : UnR X (unaryOp op) r)
    (hs : ∀ (H : Hp) (v : V) (x z : D) (Q : VK), Dt X.K H v x → f x = some z → (∀ u, (∀ S, Dt X.K S u z) → Q u H) → r v H Q) (ha : QE X W p a ta da) : QE X W p (.UnaryOp op a pos) (tUn r ta) (dUn f da) := by
  refine ⟨pe_un ho ha.pe, fun F S σ H env Q E q => (ha.sim F) S σ H env _ E (Rz.imp (Rz.bind_holds q) (fun x e1 q1 S1 H1 v s1 t1 E1 d1 => ?_) fun _ _ _ z => z)⟩
  obtain ⟨z, ez, k⟩ := oz_holds q1
  exact hs H1 v x z Q (d1.mono E1.sub) ez fun u hu => k S1 H1 u s1 t1 E1 (hu S1)

/-! ### tests -/
theorem sim_tst {te : TE} {de : Ev → Rz D} {K : PySem.W.Frag} {F : Fm} (h : SimE K F W p te de) : SimT K F W p (tB te) (dTst de) := by
  intro S σ H env Q E q
  refine h S σ H env _ E (Rz.imp (Rz.bind_holds q) (fun x e1 q1 S1 H1 v s1 t1 E1 d1 => ?_) fun _ _ _ z => z)
  cases d1 with
  | bl b => exact ⟨b, rfl, q1 S1 H1 s1 t1 E1⟩
  | _ => exact q1.elim
theorem QE.t {e : Expr} {te : TE} {de : Ev → Rz D} (h : QE X W p e te de) (he : ∀ whole, isTrue e X.env whole = (do let v ← whole; standAt e.pos; holding [v] (truthy v)) := by intro _; rfl) : QT X W p e (tB te) (dTst de) := ⟨pt_val h.pe he, fun F => sim_tst (h.sim F)⟩
theorem qt_cmp {op : CmpOp} {r : R2} {f : D → D → Option D} {a b : Expr} {ta tb : TE} {da db : Ev → Rz D} {pos : Pos} (ho : OpR X (compareOp op) r) (hs : OpP X.K r f) (ha : QE X W p a ta da) (hb : QE X W p b tb db) (hm : behindInMarks op b = false) :
    QT X W p (.Compare a [op] [b] pos) (tTest (tOp r ta tb)) (dTst (dOp f da db)) := ⟨pt_cmpR ho ha.pe hb.pe hm, fun F => sim_tst (sim_op hs (ha.sim F) (hb.sim F))⟩
theorem qt_cmpR {op : CmpOp} {r : R2} {f : D → D → Option D} {a b : Expr} {ta tb : TE} {da db : Ev → Rz D} {pos : Pos} (ho : OpR X (compareOp op) r) (hs : OpD X.K r f) (ha : QR X W a ta da) (hb : QR X W b tb db) [u : Still da] [u' : Still db] (hm : behindInMarks op b = false) :
    QT X W p (.Compare a [op] [b] pos) (tTest (tOp r ta tb)) (dTst (dOp f da db)) := ⟨pt_cmpR ho ha.pe hb.pe hm, fun F => sim_tst (sim_opR hs (ha.sim F) (hb.sim F) u.at_ u'.at_)⟩
theorem qt_not {a : Expr} {tA : TT} {dA : Ev → Rz Bool} {pos : Pos} (ha : QT X W p a tA dA) : QT X W p (.UnaryOp .Not a pos) (tNot tA) (dNotT dA) :=
  ⟨pt_not ha.pt, fun F S σ H env Q E q => (ha.sim F) S σ H env _ E (Rz.imp (Rz.bind_holds q) (fun x e1 q1 S1 H1 s1 t1 E1 => q1 S1 H1 s1 t1 E1) fun _ _ _ z => z)⟩
theorem sim_and {tA tB' : TT} {dA dB : Ev → Rz Bool} {K : PySem.W.Frag} {F : Fm} (ha : SimT K F W p tA dA) (hb : SimT K F W p tB' dB) : SimT K F W p (tAnd tA tB') (dAndT dA dB) := by
  intro S σ H env Q E q
  refine ha S σ H env _ E (Rz.imp (Rz.bind_holds q) (fun c e1 q1 S1 H1 s1 t1 E1 => ?_) fun _ _ _ z => z)
  cases c with
  | true => exact hb S1 σ H1 e1 _ E1 (Rz.imp (show (dB e1).holds _ _ from q1) (fun b e2 k S2 H2 s2 t2 E2 => k S2 H2 (s1.trans s2) (tr2 t1 t2) E2) fun _ _ _ z => z.mono s1)
  | false => exact q1 S1 H1 s1 t1 E1
theorem sim_or {tA tB' : TT} {dA dB : Ev → Rz Bool} {K : PySem.W.Frag} {F : Fm} (ha : SimT K F W p tA dA) (hb : SimT K F W p tB' dB) : SimT K F W p (tOr tA tB') (dOrT dA dB) := by
  intro S σ H env Q E q
  refine ha S σ H env _ E (Rz.imp (Rz.bind_holds q) (fun c e1 q1 S1 H1 s1 t1 E1 => ?_) fun _ _ _ z => z)
  cases c with
  | false => exact hb S1 σ H1 e1 _ E1 (Rz.imp (show (dB e1).holds _ _ from q1) (fun b e2 k S2 H2 s2 t2 E2 => k S2 H2 (s1.trans s2) (tr2 t1 t2) E2) fun _ _ _ z => z.mono s1)
  | true => exact q1 S1 H1 s1 t1 E1
theorem qw_and1 {a : Expr} {tA : TT} {dA : Ev → Rz Bool} {pos : Pos} (ha : QT X W p a tA dA) : QW X W p (.BoolOp .And [a] pos) tA dA := ⟨pw_and1 ha.pt, ha.sim⟩
theorem qw_or1 {a : Expr} {tA : TT} {dA : Ev → Rz Bool} {pos : Pos} (ha : QT X W p a tA dA) : QW X W p (.BoolOp .Or [a] pos) tA dA := ⟨pw_or1 ha.pt, ha.sim⟩
theorem qw_and {a b : Expr} {rest : List Expr} {tA tB' : TT} {dA dB : Ev → Rz Bool} {pos : Pos} (ha : QT X W p a tA dA) (hb : QW X W p (.BoolOp .And (b :: rest) pos) tB' dB) : QW X W p (.BoolOp .And (a :: b :: rest) pos) (tAnd tA tB') (dAndT dA dB) :=
  ⟨pw_and ha.pt hb.pw, fun F => sim_and (ha.sim F) (hb.sim F)⟩
theorem qw_or {a b : Expr} {rest : List Expr} {tA tB' : TT} {dA dB : Ev → Rz Bool} {pos : Pos} (ha : QT X W p a tA dA) (hb : QW X W p (.BoolOp .Or (b :: rest) pos) tB' dB) : QW X W p (.BoolOp .Or (a :: b :: rest) pos) (tOr tA tB') (dOrT dA dB) :=
  ⟨pw_or ha.pt hb.pw, fun F => sim_or (ha.sim F) (hb.sim F)⟩
theorem QW.t {e : Expr} {tt : TT} {dt : Ev → Rz Bool} (h : QW X W p e tt dt) : QT X W p e tt dt := ⟨h.pw.pt, h.sim⟩
/-! and, or, not as values -/
theorem qe_one {op : BoolOp} {a : Expr} {ta : TE} {da : Ev → Rz D} {pos : Pos} (ha : QE X W p a ta da) : QE X W p (.BoolOp op [a] pos) ta da := ⟨pe_one ha.pe, ha.sim⟩
theorem qe_and {a b : Expr} {rest : List Expr} {ta tb : TE} {da db : Ev → Rz D} {pos : Pos} (ha : QE X W p a ta da) (hb : QE X W p (.BoolOp .And (b :: rest) pos) tb db) : QE X W p (.BoolOp .And (a :: b :: rest) pos) (tAndV ta tb) (dAnd da db) := by
  refine ⟨pe_and ha.pe hb.pe, fun F S σ H env Q E q => (ha.sim F) S σ H env _ E (Rz.imp (Rz.bind_holds q) (fun x e1 q1 S1 H1 v s1 t1 E1 d1 => ?_) fun _ _ _ z => z)⟩
  cases d1 with
  | bl c =>
    refine ⟨c, rfl, ?_⟩
    cases c with
    | true => exact (hb.sim F) S1 σ H1 e1 _ E1 (Rz.imp (show (db e1).holds _ _ from q1) (fun b e2 k S2 H2 v s2 t2 E2 => k S2 H2 v (s1.trans s2) (tr2 t1 t2) E2) fun _ _ _ z => z.mono s1)
    | false => exact q1 S1 H1 _ s1 t1 E1 (.bl false)
  | _ => exact q1.elim
theorem qe_or {a b : Expr} {rest : List Expr} {ta tb : TE} {da db : Ev → Rz D} {pos : Pos} (ha : QE X W p a ta da) (hb : QE X W p (.BoolOp .Or (b :: rest) pos) tb db) : QE X W p (.BoolOp .Or (a :: b :: rest) pos) (tOrV ta tb) (dOr da db) := by
  refine ⟨pe_or ha.pe hb.pe, fun F S σ H env Q E q => (ha.sim F) S σ H env _ E (Rz.imp (Rz.bind_holds q) (fun x e1 q1 S1 H1 v s1 t1 E1 d1 => ?_) fun _ _ _ z => z)⟩
  cases d1 with
  | bl c =>
    refine ⟨c, rfl, ?_⟩
    cases c with
    | false => exact (hb.sim F) S1 σ H1 e1 _ E1 (Rz.imp (show (db e1).holds _ _ from q1) (fun b e2 k S2 H2 v s2 t2 E2 => k S2 H2 v (s1.trans s2) (tr2 t1 t2) E2) fun _ _ _ z => z.mono s1)
    | true => exact q1 S1 H1 _ s1 t1 E1 (.bl true)
  | _ => exact q1.elim
theorem qe_not {a : Expr} {ta : TE} {da : Ev → Rz D} {pos : Pos} (ha : QE X W p a ta da) : QE X W p (.UnaryOp .Not a pos) (tNotV ta) (dNot da) := by
  refine ⟨pe_not ha.pe, fun F S σ H env Q E q => (ha.sim F) S σ H env _ E (Rz.imp (Rz.bind_holds q) (fun x e1 q1 S1 H1 v s1 t1 E1 d1 => ?_) fun _ _ _ z => z)⟩
  cases d1 with
  | bl c => exact ⟨c, rfl, q1 S1 H1 _ s1 t1 E1 (.bl _)⟩
  | _ => exact q1.elim
theorem qe_ifE {c a b : Expr} {tA : TT} {ta tb : TE} {dA : Ev → Rz Bool} {da db : Ev → Rz D} {pos : Pos} (hc : QT X W p c tA dA) (ha : QE X W p a ta da) (hb : QE X W p b tb db) : QE X W p (.IfExp c a b pos) (tIf tA ta tb) (dIfE dA da db) := by
  refine ⟨pe_ifExp hc.pt ha.pe hb.pe, fun F S σ H env Q E q => (hc.sim F) S σ H env _ E (Rz.imp (Rz.bind_holds q) (fun c e1 q1 S1 H1 s1 t1 E1 => ?_) fun _ _ _ z => z)⟩
  cases c with
  | true => exact (ha.sim F) S1 σ H1 e1 _ E1 (Rz.imp (show (da e1).holds _ _ from q1) (fun b e2 k S2 H2 v s2 t2 E2 => k S2 H2 v (s1.trans s2) (tr2 t1 t2) E2) fun _ _ _ z => z.mono s1)
  | false => exact (hb.sim F) S1 σ H1 e1 _ E1 (Rz.imp (show (db e1).holds _ _ from q1) (fun b e2 k S2 H2 v s2 t2 E2 => k S2 H2 v (s1.trans s2) (tr2 t1 t2) E2) fun _ _ _ z => z.mono s1)

/-! ### argument lists, displays -/
theorem qa_nil : QA X W p [] tNil dNil := ⟨pa_nil, fun F S σ H env Q E q => q S H [] (Same.refl _) (fun _ => Gr.refl _ _) E .nil⟩
theorem qa_cons {e : Expr} {es : List Expr} {te : TE} {t : TA} {de : Ev → Rz D} {da : Ev → Rz (List D)} (h : QE X W p e te de) (hr : QA X W p es t da) (hs : starEach (e :: es) X.env = (false, eval e X.env) :: starEach es X.env := by rfl) :
    QA X W p (e :: es) (tCons te t) (dCons de da) := by
  refine ⟨pa_cons h.pe hr.pa hs, fun F S σ H env Q E q => (h.sim F) S σ H env _ E (Rz.imp (Rz.bind_holds q) (fun x e1 q1 S1 H1 v s1 t1 E1 d1 => ?_) fun _ _ _ z => z)⟩
  exact (hr.sim F) S1 σ H1 e1 _ E1 (Rz.imp (Rz.bind_holds q1) (fun xs e2 k S2 H2 vs s2 t2 E2 ds => k S2 H2 _ (s1.trans s2) (tr2 t1 t2) E2 (.cons (d1.mono s2) ds)) fun _ _ _ z => z.mono s1)
theorem qar_nil : QAR X W [] tNil dNil := ⟨pa_nil, fun F S σ H env Q E q => q S H [] (Same.refl _) (Gr.refl _ _) E .nil⟩
theorem qar_cons {e : Expr} {es : List Expr} {te : TE} {t : TA} {de : Ev → Rz D} {da : Ev → Rz (List D)} (h : QR X W e te de) [u : Still de] (hr : QAR X W es t da) (hs : starEach (e :: es) X.env = (false, eval e X.env) :: starEach es X.env := by rfl) :
    QAR X W (e :: es) (tCons te t) (dCons de da) := by
  refine ⟨pa_cons h.pe hr.pa hs, fun F S σ H env Q E q => (h.sim F) S σ H env _ E ?_⟩
  have q' := Rz.bind_holds q
  cases z : de env with
  | no => rw [z] at q'; exact q'
  | ex c x e => rw [z] at q'; exact q'
  | ok x e1 =>
    rw [z] at q'
    have ee := u.at_ _ _ _ z
    subst ee
    intro S1 H1 v s1 t1 E1 d1
    exact (hr.sim F) S1 σ H1 e1 _ E1 (Rz.imp (Rz.bind_holds q') (fun xs e2 k S2 H2 vs s2 t2 E2 ds => k S2 H2 _ (s1.trans s2) (t1.trans t2) E2 (.cons (d1.mono t2.same) ds)) fun _ _ _ z => z.mono s1)
/-- an object that is new and stands -/
theorem EnvOk.lay {K : PySem.W.Frag} {F : Fm} {S H : Hp} {σ : L2.St} {env : Ev} {q : Addr} {o : HO} (E : EnvOk K F S σ H env) (h : H q = none) : EnvOk K F (upd S q o) σ (upd H q o) env :=
  E.mono (same_upd (none_of_same E.sub h)) (same_upd h) (same_upd2 E.sub) fun b hb n => by
    rw [upd_ne (fun z => hb (by rw [z]; exact h))]
    exact n
/-- a list that is new, not let stand -/
theorem EnvOk.layN {K : PySem.W.Frag} {F : Fm} {S H : Hp} {σ : L2.St} {env : Ev} {q : Addr} {vs : List V} {xs : List D} (E : EnvOk K F S σ H env) (h : H q = none) (hv : DtAll K S vs xs) : EnvOk K F S σ (upd H q (.lst vs)) env ∧ NewL K F S (upd H q (.lst vs)) σ env q xs :=
  ⟨E.mono (Same.refl _) (same_upd h) (same_upd_of E.sub (none_of_same E.sub h)) fun _ _ n => n, ⟨vs, upd_same, hv⟩, none_of_same E.sub h, (E.newOf h).1, (E.newOf h).2, E.noR h⟩
theorem qe_tup {es : List Expr} {x1} {pos : Pos} {t : TA} {da : Ev → Rz (List D)} (h : QA X W p es t da) : QE X W p (.Tuple es x1 pos) (tTup t) (dTupE da) := by
  refine ⟨pe_tup h.pa, fun F S σ H env Q E q => (h.sim F) S σ H env _ E (Rz.imp (Rz.bind_holds q) (fun xs e1 q1 S1 H1 vs s1 t1 E1 d1 => ?_) fun _ _ _ z => z)⟩
  by_cases hz : xs.length ≤ 1000000
  · rw [if_pos hz] at q1
    refine ⟨by rw [d1.length]; exact size_ok hz, fun r hr => ?_⟩
    have hS := none_of_same E1.sub hr
    exact q1 (upd S1 r (.tup vs)) (upd H1 r (.tup vs)) _ (s1.trans (same_upd hS)) (fun z => (t1 z).trans ⟨same_upd hr, fun b hb n => by rw [upd_ne (fun e => hb (by rw [e]; exact hr))]; exact n⟩) (E1.lay hr) (.tup (.inl (.inl upd_same)) (d1.mono (same_upd hS)))
  · rw [if_neg hz] at q1
    exact q1.elim
theorem qn_lst {es : List Expr} {pos : Pos} {t : TA} {da : Ev → Rz (List D)} (h : QA X W p es t da) : QN X W p (.List es pos) (tLst t) (dLstE da) := by
  refine ⟨pe_lst h.pa, fun F S σ H env Q E q => (h.sim F) S σ H env _ E (Rz.imp (Rz.bind_holds q) (fun xs e1 q1 S1 H1 vs s1 t1 E1 d1 => ?_) fun _ _ _ z => z)⟩
  by_cases hz : xs.length ≤ 1000000
  · rw [if_pos hz] at q1
    refine ⟨by rw [d1.length]; exact size_ok hz, fun r hr => ?_⟩
    obtain ⟨E2, N⟩ := E1.layN hr d1
    exact q1 S1 (upd H1 r (.lst vs)) r s1 (fun z => ⟨(t1 z).trans ⟨same_upd hr, fun _ _ n => n⟩, (t1 z).none hr⟩) E2 N
  · rw [if_neg hz] at q1
    exact q1.elim
end
end DL
set_option Elab.async false
set_option linter.all false
set_option maxRecDepth 100000
set_option maxHeartbeats 4000000
/-! DL, part c: defs over a ground in which no repr runs and the digit limit is Python's own (FnG); their calls; a law's end. -/
namespace DL
open PySem PySem.Spec PyProof.Rows L2

/-- a def keeps its promise wherever no repr is under way -/
structure FnG (P : Program) (w : World) (K : PySem.W.Frag) (mg : Str → Option Value) (base : Heap) (k : Nat) (f : Addr) (fd : FuncData) (ps : List Str) (sp : Sp) : Prop where
  len : ∀ vs H Q E, sp vs H Q E → vs.length = ps.length
  run : ∀ (A : Around) (outer : List Env) (s : Shared) (H : Hp) (args : Args) (us : List Value) (vs : List V) (Q : VK) (E : XK), A.guards = some [] → Room k A → Env0 P w K mg base A outer s H →
    BindsTo s fd args (ps.zip us) → Vals vs us → sp vs H Q E → codeAny (model P w) A (.call (.ref f) args) (CR (L2.CX P w) outer P w H s Q E) s
theorem FnG.mono {P : Program} {w : World} {K : PySem.W.Frag} {mg : Str → Option Value} {base : Heap} {j k : Nat} {f : Addr} {fd : FuncData} {ps : List Str} {sp : Sp}
    (F : FnG P w K mg base j f fd ps sp) (h : j ≤ k) : FnG P w K mg base k f fd ps sp :=
  ⟨F.len, fun A outer s H args us vs Q E hg hr => F.run A outer s H args us vs Q E hg (hr.mono h)⟩

/-- a def's context -/
abbrev cxG (P : Program) (w : World) (K : PySem.W.Frag) (mg : Str → Option Value) (base : Heap) (N : List Str) (qual : Str) (scope : Scope) (f : Addr) (cd : Value) (A : Around) (outer : List Env) (s : Shared) (H : Hp) (E : XK) : Cx :=
  cxOf (L2.CX P w) P w K mg base N qual scope f cd A outer s H E
section
variable {P : Program} {w : World} {K : PySem.W.Frag} {mg : Str → Option Value} {base : Heap} {x qual : Str} {params : Arguments} {body : List Stmt} {scope : Scope} {dvs : List V} {kws : List (Str × V)} {f : Addr} {fd : FuncData}
/-- by its body -/
theorem fnG_of {N ps : List Str} {k : Nat} {sp : Sp} (F : FunD K x qual params body scope dvs kws f fd) (S : FnScope N ps scope) (len : ∀ vs H Q E, sp vs H Q E → vs.length = ps.length)
    (hb : ∀ (cdv : Value) (A : Around) (outer : List Env) (s : Shared) (H : Hp) (vs : List V) (Q : VK) (E : XK), A.guards = some [] → Room k (A.deeper (envOfC qual scope s.heap.objs.size f cdv)) → sp vs H Q E →
      ∃ t, PSs (cxG P w K mg base N qual scope f cdv A outer s H E) body t ∧ t { nx := fun _ H' => Q .non H', rt := Q } (start N vs) H) : FnG P w K mg base (k + 1) f fd ps sp := by
  obtain ⟨oc, od, dV, kV, doc, pm, an, cdv, ct, osl, e, lk, hcd, _, _⟩ := F.ex
  subst e
  refine ⟨len, ?_⟩
  intro A outer s H args us vs Q E hg hr e0 hbi rv hsp
  have hl := len _ _ _ _ hsp
  have inB : ∀ b o, base.get? b = some o → s.heap.get? b = some o := fun b o z => (e0.bs b o z).1
  have KX : K.In s.heap := e0.mod.kin.keeps inB
  have lim : s.heap.NoLimit := e0.mod.nolimit.keeps inB
  refine codeAny_call_function hr.depth (KX _ _ lk) rfl S.co S.gen rfl (PySem.W.codeRec_of KX hcd) (hbi _ _ _ _ ?_)
  refine wpAny_newFunctionEnv_cells S.kind (fun y hy => ?_) fun env he s1 xi => ?_
  · obtain ⟨n, v⟩ := y
    rcases S.par n (List.of_mem_zip hy).1 with q | q
    · exact .inl q
    · exact .inr ⟨q, PySem.W.cellsFrom_some _ _ _ (.inl q)⟩
  · subst he
    refine ⟨lim.keeps xi.toInCall.keep, codeAny_func ?_⟩
    obtain ⟨t, ht, hq⟩ := hb cdv A outer s H vs Q E hg (hr.deeper _) hsp
    have I : Inv (cxG P w K mg base N qual scope f cdv A outer s H E) [] (start N vs) H s1 := inv_start S hr.hd e0 hl rv xi
    refine wpAny_mono (ht.run [] s1 (start N vs) H _ I hq) (fun fl s' hs => ?_) fun _ _ z => z
    cases fl with
    | ret u =>
      obtain ⟨v, σ', H', J, r2, q⟩ := hs
      exact ⟨v, H', J.os, J.bare, J.base, J.hok, r2, q⟩
    | next =>
      obtain ⟨σ', H', J, q⟩ := hs
      exact ⟨.non, H', J.os, J.bare, J.base, J.hok, rfl, q⟩
    | brk =>
      obtain ⟨_, _, _, q⟩ := hs
      exact q.elim
    | cont =>
      obtain ⟨_, _, _, q⟩ := hs
      exact q.elim
end

/-! ### what a def does, on data -/
inductive Fz where
  | ok (d : D)
  | nw (xs : List D)
  | ex (c : Str) (x : D)
  | no
inductive Iz where
  | ok (d : D) (xs : List D)
  | nw (ds : List D) (xs : List D)
  | ex (c : Str) (x : D) (xs : List D)
  | no
/-- a def that changes nothing -/
def spP (K : PySem.W.Frag) (n : Nat) (F : List D → Fz) : Sp := fun vs H Q E => vs.length = n ∧ ∃ S ds, Same S H ∧ DtAll K S vs ds ∧ match F ds with
  | .ok d => ∀ S' H' v, Same S S' → Same H H' → Same S' H' → Av S H S' → Dt K S' v d → Q v H'
  | .nw xs => ∀ S' H' p vs', Same S S' → Same H H' → Same S' H' → Av S H S' → H p = none → H' p = some (.lst vs') → S' p = none → DtAll K S' vs' xs → Q (.ref p) H'
  | .ex c x => ∀ S' H' cls dd, Same S S' → Same H H' → Same S' H' → Av S H S' → XOk K S' c x cls dd → E cls dd H'
  | .no => False
/-- all but g stays -/
def But (g : Addr) (H H' : Hp) : Prop := ∀ b o, b ≠ g → H b = some o → H' b = some o
/-- a def that changes the list that is its first argument -/
def spI (K : PySem.W.Frag) (n : Nat) (F : List D → List D → Iz) : Sp := fun vs H Q E => vs.length = n ∧ ∃ S g ws xs us ds, vs = .ref g :: us ∧ Same S H ∧ H g = some (.lst ws) ∧ S g = none ∧ DtAll K S ws xs ∧ DtAll K S us ds ∧ match F xs ds with
  | .ok d ys => ∀ S' H' v ws', Same S S' → But g H H' → Same S' H' → Av S H S' → H' g = some (.lst ws') → DtAll K S' ws' ys → Dt K S' v d → Q v H'
  | .nw zs ys => ∀ S' H' p vs' ws', Same S S' → But g H H' → Same S' H' → Av S H S' → H' g = some (.lst ws') → DtAll K S' ws' ys → H p = none → H' p = some (.lst vs') → S' p = none → DtAll K S' vs' zs → Q (.ref p) H'
  | .ex c x ys => ∀ S' H' cls dd ws', Same S S' → But g H H' → Same S' H' → Av S H S' → H' g = some (.lst ws') → DtAll K S' ws' ys → XOk K S' c x cls dd → E cls dd H'
  | .no => False

def isSc : D → Bool
  | .non => true
  | .bl _ => true
  | .int _ => true
  | .str _ => true
  | _ => false
theorem sc_any {K : PySem.W.Frag} {H : Hp} {v : V} {d : D} (h : Dt K H v d) (s : isSc d = true) (S : Hp) : Dt K S v d := by
  cases h with
  | non => exact .non
  | bl b => exact .bl b
  | int i => exact .int i
  | str x => exact .str x
  | _ => cases s
theorem sc_all {K : PySem.W.Frag} {H : Hp} (S : Hp) : ∀ {vs : List V} {ds : List D}, DtAll K H vs ds → ds.all isSc = true → DtAll K S vs ds
  | _, _, .nil, _ => .nil
  | _, _, .cons a t, h => by
    rw [List.all_cons] at h
    have h' := Bool.and_eq_true_iff.mp h
    exact .cons (sc_any a h'.1 S) (sc_all S t h'.2)

def ofF (r : Fz) (e : Ev) : Rz D := match r with
  | .ok d => .ok d e
  | .nw xs => .ok (.lst xs) e
  | .ex c x => .ex c x e
  | .no => .no
def ofFN (r : Fz) (e : Ev) : Rz (List D) := match r with
  | .nw xs => .ok xs e
  | .ex c x => .ex c x e
  | _ => .no
def ofFR (r : Fz) (e : Ev) : Rz D := match r with
  | .ok d => if isSc d = true then .ok d e else .no
  | _ => .no
def ofFRN (r : Fz) (e : Ev) : Rz (List D) := match r with
  | .nw xs => if xs.all isSc = true then .ok xs e else .no
  | _ => .no
def ofI (r : Iz) (i : Nat) (a : Bool) (e : Ev) : Rz D := match r with
  | .ok d ys => .ok d (e.set i (.own a ys))
  | .nw zs ys => .ok (.lst zs) (e.set i (.own a ys))
  | .ex c x ys => .ex c x (e.set i (.own a ys))
  | .no => .no
def ofIN (r : Iz) (i : Nat) (a : Bool) (e : Ev) : Rz (List D) := match r with
  | .nw zs ys => .ok zs (e.set i (.own a ys))
  | .ex c x ys => .ex c x (e.set i (.own a ys))
  | _ => .no
def ofT (r : Iz) (e : Ev) : Rz D := match r with
  | .ok d _ => .ok d e
  | .nw zs _ => .ok (.lst zs) e
  | .ex c x _ => .ex c x e
  | .no => .no
def dCall (F : List D → Fz) (da : Ev → Rz (List D)) (e : Ev) : Rz D := (da e).bind fun ds e1 => ofF (F ds) e1
def dCallN (F : List D → Fz) (da : Ev → Rz (List D)) (e : Ev) : Rz (List D) := (da e).bind fun ds e1 => ofFN (F ds) e1
/-- the arguments are read alone: what comes back is flat -/
def dCallR (F : List D → Fz) (da : Ev → Rz (List D)) (e : Ev) : Rz D := (da e).bind fun ds e1 => ofFR (F ds) e1
def dCallRN (F : List D → Fz) (da : Ev → Rz (List D)) (e : Ev) : Rz (List D) := (da e).bind fun ds e1 => ofFRN (F ds) e1
def onI {α : Type} (i : Nat) (e : Ev) (k : Bool → List D → Rz α) : Rz α := match e[i]? with
  | some (.own a xs) => k a xs
  | _ => .no
/-- slot i's list is the first argument, and is changed -/
def dCallI (i : Nat) (F : List D → List D → Iz) (da : Ev → Rz (List D)) (e : Ev) : Rz D := onI i e fun _ _ => (da e).bind fun ds e1 => onI i e1 fun a xs => ofI (F xs ds) i a e1
def dCallIN (i : Nat) (F : List D → List D → Iz) (da : Ev → Rz (List D)) (e : Ev) : Rz (List D) := onI i e fun _ _ => (da e).bind fun ds e1 => onI i e1 fun a xs => ofIN (F xs ds) i a e1
/-- a new list is the first argument, and is thrown away -/
def dCallT (F : List D → List D → Iz) (dn : Ev → Rz (List D)) (da : Ev → Rz (List D)) (e : Ev) : Rz D := (dn e).bind fun xs e0 => (da e0).bind fun ds e1 => ofT (F xs ds) e1
instance still_call {F : List D → Fz} {a : Ev → Rz (List D)} [ha : StillA a] : Still (dCall F a) := ⟨fun env d e' h => by
  obtain ⟨x, e1, h1, h2⟩ := Rz.bind_ok h
  have h3 := ha.at_ _ _ _ h1
  cases y : F x with
  | ok z => rw [y] at h2; cases h2; exact h3
  | nw z => rw [y] at h2; cases h2; exact h3
  | ex c z => rw [y] at h2; cases h2
  | no => rw [y] at h2; cases h2⟩
instance still_callN {F : List D → Fz} {a : Ev → Rz (List D)} [ha : StillA a] : StillA (dCallN F a) := ⟨fun env d e' h => by
  obtain ⟨x, e1, h1, h2⟩ := Rz.bind_ok h
  have h3 := ha.at_ _ _ _ h1
  cases y : F x with
  | ok z => rw [y] at h2; cases h2
  | nw z => rw [y] at h2; cases h2; exact h3
  | ex c z => rw [y] at h2; cases h2
  | no => rw [y] at h2; cases h2⟩

section
variable {X : Cx} {W : WX} {k : Nat} {f : Addr} {fd : FuncData} {ps ks : List Str} {sp : Sp} {dvs : List V} {ds : List Value} {x : Str} {pp pos : Pos} {e : Expr} {es : List Expr} {t : TA} {p : Bool}
theorem runG {pins : List (Addr × Obj)} {σ : L2.St} {H : Hp} {s : Shared} {Q : VK} {us as : List Value} {vs : List V} {kw : List (Str × Value)} (F : FnG X.prog X.w X.K X.mg X.base k f fd ps sp) (hgd : X.A.guards = some []) (hr : Room k X.A) (tk : Takes X W)
    (I : Inv X pins σ H s) (hb : BindsTo s fd ⟨as, kw⟩ (ps.zip us)) (r : Vals vs us) (h : sp vs H Q (WE W σ)) : wpAny (model X.prog X.w) X.A (call (.ref f) as kw) (EP X pins σ Q) X.xe s := by
  refine wpAny_call (codeAny_mono (F.run X.A X.stack s H ⟨as, kw⟩ us vs Q (WE W σ) hgd hr I.env0 hb r h) fun rr s' hq => ?_)
  cases rr with
  | error e => exact passAt tk σ pins H s e s' I hq
  | ok fl =>
    cases fl with
    | ret u => exact I.after hq
    | next => exact hq.elim
    | brk => exact hq.elim
    | cont => exact hq.elim
/-- f(e, ..), the written arguments, then the defaults dvs -/
def tCalG (sp : Sp) (dvs : List V) (W : WX) (t : TA) : TE := fun σ H Q => t σ H fun vs H1 => sp (vs ++ dvs) H1 Q (WE W σ)
theorem pe_calG (F : FnG X.prog X.w X.K X.mg X.base k f fd ps sp) (hgd : X.A.guards = some []) (hr : Room k X.A) (tk : Takes X W) (hg : Gl X x) (hm : X.mg x = some (.ref f)) (hk : PySem.W.keepIn X.K (.ref f) = true) (hb : L2.Binds X.K fd ps ds) (hd : Vals dvs ds)
    (ha : PA X (e :: es) t) (hdb : (x == ("__debug__" : Str)) = false := by decide) (he : starEach (e :: es) X.env = (false, eval e X.env) :: starEach es X.env := by rfl)
    (hpl : (backTo pos (starEach es X.env)).any (·.1) = false := by rfl) : PE X (.Call (.Name x pp) (e :: es) [] pos) (tCalG sp dvs W t) := by
  constructor
  intro pins s σ H Q I h
  refine wpAny_Call_Name_kw (ld_glob I hg hm ?_ hdb)
  refine PySem.W.callWith_K (h₀ := X.base) I.ok.mod.kin hk (thn (ha.run pos pins s σ H _ I h) fun us s1 hh => ?_) he hpl
  obtain ⟨vs, H1, I1, r, q⟩ := hh
  refine ⟨I1.kIn, runG F hgd hr tk I1 (hb s1 us I1.kIn ?_) (r.append hd) q⟩
  rw [← (r.append hd).length]
  exact F.len _ _ _ _ q
theorem pe_calG0 (F : FnG X.prog X.w X.K X.mg X.base k f fd ps sp) (hgd : X.A.guards = some []) (hr : Room k X.A) (tk : Takes X W) (hg : Gl X x) (hm : X.mg x = some (.ref f)) (hk : PySem.W.keepIn X.K (.ref f) = true) (hb : L2.Binds X.K fd ps ds) (hd : Vals dvs ds)
    (hdb : (x == ("__debug__" : Str)) = false := by decide) : PE X (.Call (.Name x pp) [] [] pos) (tCalG sp dvs W tNil) := by
  constructor
  intro pins s σ H Q I h
  refine wpAny_Call_Name_kw (ld_glob I hg hm ?_ hdb)
  refine PySem.W.callWith_K0 I.kIn hk ?_
  have r : Vals ([] ++ dvs) ([] ++ ds) := hd
  refine runG F hgd hr tk I (hb s [] I.kIn ?_) r h
  rw [← r.length]
  exact F.len _ _ _ _ h
/-! #### what a call does to data -/
section
variable {K : PySem.W.Frag} {Fr : Fm} {n : Nat} {F : List D → Fz} {FI : List D → List D → Iz} {da : Ev → Rz (List D)}
theorem sim_call (ha : SimA K Fr W p t da) [hn : Len da n] : SimE K Fr W p (tCalG (spP K n F) [] W t) (dCall F da) := by
  intro S σ H env Q E q
  have q' := Rz.bind_holds q
  refine ha S σ H env _ E ?_
  cases z : da env with
  | no => rw [z] at q'; exact q'
  | ex c x e => rw [z] at q'; exact q'
  | ok ds e1 =>
    rw [z] at q'
    have q2 : (ofF (F ds) e1).holds _ _ := q'
    intro S1 H1 vs s1 t1 E1 dv
    show spP K n F (vs ++ []) H1 Q _
    rw [List.append_nil]
    refine ⟨by rw [dv.length]; exact hn.at_ _ _ _ z, S1, ds, E1.sub, dv, ?_⟩
    cases y : F ds with
    | no => rw [y] at q2; exact q2
    | ok d =>
      rw [y] at q2
      exact fun S2 H2 v s2 t2 u2 av hd => q2 S2 H2 v (s1.trans s2) (fun z => (t1 z).trans ⟨t2, av⟩) (E1.mono s2 t2 u2 av) hd
    | nw xs =>
      rw [y] at q2
      intro S2 H2 r vs' s2 t2 u2 av hp hp2 hs2 hv
      have E2 := E1.mono s2 t2 u2 av
      have N : NewL K Fr S2 H2 σ e1 r xs := ⟨⟨vs', hp2, hv⟩, hs2, (E1.newOf hp).1, (E1.newOf hp).2, E1.noR hp⟩
      obtain ⟨S3, s3, a3, E3, hd⟩ := N.stand E2
      exact q2 S3 H2 _ ((s1.trans s2).trans s3) (fun z => (t1 z).trans ⟨t2, fun b hb n => a3 b (fun e => hb (by rw [e]; exact hp)) (av b hb n)⟩) E3 hd
    | ex c x =>
      rw [y] at q2
      exact fun S2 H2 cls dd s2 t2 u2 av xo => q2 S2 H2 cls dd (s1.trans s2) (E1.mono s2 t2 u2 av) xo
theorem sim_callN (ha : SimA K Fr W p t da) [hn : Len da n] : SimN K Fr W p (tCalG (spP K n F) [] W t) (dCallN F da) := by
  intro S σ H env Q E q
  have q' := Rz.bind_holds q
  refine ha S σ H env _ E ?_
  cases z : da env with
  | no => rw [z] at q'; exact q'
  | ex c x e => rw [z] at q'; exact q'
  | ok ds e1 =>
    rw [z] at q'
    have q2 : (ofFN (F ds) e1).holds _ _ := q'
    intro S1 H1 vs s1 t1 E1 dv
    show spP K n F (vs ++ []) H1 Q _
    rw [List.append_nil]
    refine ⟨by rw [dv.length]; exact hn.at_ _ _ _ z, S1, ds, E1.sub, dv, ?_⟩
    cases y : F ds with
    | no => rw [y] at q2; exact q2
    | ok d => rw [y] at q2; exact q2.elim
    | nw xs =>
      rw [y] at q2
      intro S2 H2 r vs' s2 t2 u2 av hp hp2 hs2 hv
      exact q2 S2 H2 r (s1.trans s2) (fun z => ⟨(t1 z).trans ⟨t2, av⟩, (t1 z).none hp⟩) (E1.mono s2 t2 u2 av) ⟨⟨vs', hp2, hv⟩, hs2, (E1.newOf hp).1, (E1.newOf hp).2, E1.noR hp⟩
    | ex c x =>
      rw [y] at q2
      exact fun S2 H2 cls dd s2 t2 u2 av xo => q2 S2 H2 cls dd (s1.trans s2) (E1.mono s2 t2 u2 av) xo
theorem sim_callR (ha : SimAR K Fr W t da) [u : StillA da] [hn : Len da n] : SimE K Fr W p (tCalG (spP K n F) [] W t) (dCallR F da) := by
  intro S σ H env Q E q
  have q' := Rz.bind_holds q
  refine ha S σ H env _ E ?_
  cases z : da env with
  | no => rw [z] at q'; exact q'
  | ex c x e => rw [z] at q'; exact q'
  | ok ds e1 =>
    rw [z] at q'
    have ee := u.at_ _ _ _ z
    subst ee
    have q2 : (ofFR (F ds) e1).holds _ _ := q'
    intro S1 H1 vs s1 t1 E1 dv
    show spP K n F (vs ++ []) H1 Q _
    rw [List.append_nil]
    refine ⟨by rw [dv.length]; exact hn.at_ _ _ _ z, H1, ds, Same.refl _, dv, ?_⟩
    cases y : F ds with
    | no => rw [y] at q2; exact q2
    | ok d =>
      rw [y] at q2
      have q3 : (if isSc d = true then (Rz.ok d e1 : Rz D) else .no).holds _ _ := q2
      by_cases hs : isSc d = true
      · rw [if_pos hs] at q3
        exact fun S2 H2 v s2 t2 u2 av hd => q3 S1 H2 v s1 (fun _ => t1.trans ⟨t2, fun _ _ n => n⟩) (E1.mono (Same.refl _) t2 (E1.sub.trans t2) fun _ _ n => n) (sc_any hd hs S1)
      · rw [if_neg hs] at q3
        exact q3.elim
    | nw xs => rw [y] at q2; exact q2.elim
    | ex c x => rw [y] at q2; exact q2.elim
theorem sim_callRN (ha : SimAR K Fr W t da) [u : StillA da] [hn : Len da n] : SimN K Fr W p (tCalG (spP K n F) [] W t) (dCallRN F da) := by
  intro S σ H env Q E q
  have q' := Rz.bind_holds q
  refine ha S σ H env _ E ?_
  cases z : da env with
  | no => rw [z] at q'; exact q'
  | ex c x e => rw [z] at q'; exact q'
  | ok ds e1 =>
    rw [z] at q'
    have ee := u.at_ _ _ _ z
    subst ee
    have q2 : (ofFRN (F ds) e1).holds _ _ := q'
    intro S1 H1 vs s1 t1 E1 dv
    show spP K n F (vs ++ []) H1 Q _
    rw [List.append_nil]
    refine ⟨by rw [dv.length]; exact hn.at_ _ _ _ z, H1, ds, Same.refl _, dv, ?_⟩
    cases y : F ds with
    | no => rw [y] at q2; exact q2
    | ok d => rw [y] at q2; exact q2.elim
    | nw xs =>
      rw [y] at q2
      have q3 : (if xs.all isSc = true then (Rz.ok xs e1 : Rz (List D)) else .no).holds _ _ := q2
      by_cases hs : xs.all isSc = true
      · rw [if_pos hs] at q3
        intro S2 H2 r vs' s2 t2 u2 av hp hp2 hs2 hv
        have E2 : EnvOk K Fr S1 σ H2 e1 := E1.mono (Same.refl _) t2 (E1.sub.trans t2) fun _ _ n => n
        exact q3 S1 H2 r s1 (fun _ => ⟨t1.trans ⟨t2, fun _ _ n => n⟩, t1.none hp⟩) E2 ⟨⟨vs', hp2, sc_all S1 hv hs⟩, none_of_same E1.sub hp, (E1.newOf hp).1, (E1.newOf hp).2, E1.noR hp⟩
      · rw [if_neg hs] at q3
        exact q3.elim
    | ex c x => rw [y] at q2; exact q2.elim
/-- a list of the slot i's changes while all else stays -/
theorem EnvOk.turned {S S' H H' : Hp} {σ : L2.St} {env : Ev} {i : Nat} {g : Addr} {a : Bool} {xs ys : List D} {ws : List V} (E : EnvOk K Fr S σ H env) (h : env[i]? = some (.own a xs)) (hp : σ[i]? = some (some (.ref g)))
    (s : Same S S') (b : But g H H') (u : Same S' H') (v : Av S H S') (hg : H' g = some (.lst ws)) (hw : DtAll K S' ws ys) : EnvOk K Fr S' σ H' (env.set i (.own a ys)) := by
  obtain ⟨_, _, vs, _, hg0, hS0, _, _⟩ := E.ownAt (i := i) (p := g) ⟨⟨_, _, h⟩, hp⟩
  have hS' : S' g = none := v g (some_ne hg0) hS0
  -- first without the change of g
  have e1 : upd H' g (.lst vs) = (fun b => if b = g then some (.lst vs) else H' b) := rfl
  have t : Same H (upd H' g (.lst vs)) := fun c o e => by
    by_cases hc : c = g
    · subst hc
      rw [hg0] at e
      rw [upd_same]
      exact e
    · rw [upd_ne hc]
      exact b c o hc e
  have E1 := E.mono s t (same_upd_of u hS') v
  have E2 := E1.change h hp hw
  have e2 : upd (upd H' g (.lst vs)) g (.lst ws) = H' := by
    rw [upd_upd]
    funext c
    by_cases hc : c = g
    · subst hc
      rw [upd_same, hg]
    · rw [upd_ne hc]
  rw [e2] at E2
  exact E2
theorem onI_holds {α : Type} {i : Nat} {e : Ev} {k : Bool → List D → Rz α} {P : α → Ev → Prop} {Y : Str → D → Ev → Prop} (h : (onI i e k).holds P Y) : ∃ a xs, e[i]? = some (.own a xs) ∧ (k a xs).holds P Y := by
  unfold onI at h
  cases q : e[i]? with
  | none => rw [q] at h; exact h.elim
  | some s =>
    rw [q] at h
    cases s with
    | un => exact h.elim
    | dat d => exact h.elim
    | own a xs => exact ⟨a, xs, rfl, h⟩
theorem SlOk.addr {S H : Hp} {i : Nat} {a : Bool} {xs : List D} {o : Option V} (h : SlOk K Fr S H i o (.own a xs)) : ∃ g vs, o = some (.ref g) ∧ H g = some (.lst vs) ∧ S g = none ∧ DtAll K S vs xs := by
  cases a with
  | false => obtain ⟨r, vs, e1, e2, e3, e4, e5⟩ := h; exact ⟨r, vs, e1, e2, e3, e4⟩
  | true => obtain ⟨r, vs, e1, e2, e3, e4, e5⟩ := h; exact ⟨r, vs, e1, e2, e3, e4⟩
theorem own_of {S H : Hp} {σ : L2.St} {env : Ev} {i : Nat} {a : Bool} {xs : List D} (E : EnvOk K Fr S σ H env) (h : env[i]? = some (.own a xs)) :
    ∃ g vs, σ[i]? = some (some (.ref g)) ∧ H g = some (.lst vs) ∧ S g = none ∧ DtAll K S vs xs := by
  have hi : i < σ.length := by rw [E.len]; exact (List.getElem?_eq_some_iff.mp h).1
  obtain ⟨g, vs, e1, e2, e3, e4⟩ := (E.slot i _ _ h (List.getElem?_eq_getElem hi)).addr
  exact ⟨g, vs, by rw [List.getElem?_eq_getElem hi, e1], e2, e3, e4⟩
theorem sim_callI {i : Nat} (ha : SimA K Fr W p t da) [hn : Len da n] : SimE K Fr W false (tCalG (spI K (n + 1) FI) [] W (tCons (tVar i) t)) (dCallI i FI da) := by
  intro S σ H env Q E q
  obtain ⟨a0, xs0, h0, q0⟩ := onI_holds q
  obtain ⟨g, _, hg, _, _, _⟩ := own_of E h0
  refine ⟨.ref g, hg, ?_⟩
  have q' := Rz.bind_holds q0
  refine ha S σ H env _ E ?_
  cases z : da env with
  | no => rw [z] at q'; exact q'
  | ex c x e => rw [z] at q'; exact q'
  | ok ds e1 =>
    rw [z] at q'
    have q1 : (onI i e1 fun a xs => ofI (FI xs ds) i a e1).holds _ _ := q'
    obtain ⟨a, xs, h1, q2⟩ := onI_holds q1
    intro S1 H1 vs s1 t1 E1 dv
    obtain ⟨g', ws, hg', hH, hS, hw⟩ := own_of E1 h1
    rw [hg] at hg'
    cases hg'
    show spI K (n + 1) FI ((.ref g :: vs) ++ []) H1 Q _
    rw [List.append_nil]
    refine ⟨by rw [List.length_cons, dv.length, hn.at_ _ _ _ z], S1, g, ws, xs, vs, ds, rfl, E1.sub, hH, hS, hw, dv, ?_⟩
    cases y : FI xs ds with
    | no => rw [y] at q2; exact q2
    | ok d ys =>
      rw [y] at q2
      intro S2 H2 v ws' s2 b2 u2 av hg2 hw2 hd
      exact q2 S2 H2 v (s1.trans s2) (fun z => nomatch z) (E1.turned h1 hg s2 b2 u2 av hg2 hw2) hd
    | nw zs ys =>
      rw [y] at q2
      intro S2 H2 r vs' ws' s2 b2 u2 av hg2 hw2 hp hp2 hs2 hv
      have E2 := E1.turned h1 hg s2 b2 u2 av hg2 hw2
      obtain ⟨nw1, nw2⟩ := E1.newOf hp
      have N : NewL K Fr S2 H2 σ (e1.set i (.own a ys)) r zs := ⟨⟨vs', hp2, hv⟩, hs2, nw1, fun j hj => by
        refine nw2 j ?_
        obtain ⟨⟨b, zs', z1⟩, z2⟩ := hj
        refine ⟨?_, z2⟩
        by_cases e : j = i
        · rw [e]
          exact ⟨_, _, h1⟩
        · rw [List.getElem?_set_ne (Ne.symm e)] at z1
          exact ⟨_, _, z1⟩, E1.noR hp⟩
      obtain ⟨S3, s3, _, E3, hd⟩ := N.stand E2
      exact q2 S3 H2 _ ((s1.trans s2).trans s3) (fun z => nomatch z) E3 hd
    | ex c x ys =>
      rw [y] at q2
      intro S2 H2 cls dd ws' s2 b2 u2 av hg2 hw2 xo
      exact q2 S2 H2 cls dd (s1.trans s2) (E1.turned h1 hg s2 b2 u2 av hg2 hw2) xo
/-- the same, a new list comes back -/
theorem sim_callIN {i : Nat} (ha : SimA K Fr W p t da) [hn : Len da n] : SimN K Fr W false (tCalG (spI K (n + 1) FI) [] W (tCons (tVar i) t)) (dCallIN i FI da) := by
  intro S σ H env Q E q
  obtain ⟨a0, xs0, h0, q0⟩ := onI_holds q
  obtain ⟨g, _, hg, _, _, _⟩ := own_of E h0
  refine ⟨.ref g, hg, ?_⟩
  have q' := Rz.bind_holds q0
  refine ha S σ H env _ E ?_
  cases z : da env with
  | no => rw [z] at q'; exact q'
  | ex c x e => rw [z] at q'; exact q'
  | ok ds e1 =>
    rw [z] at q'
    have q1 : (onI i e1 fun a xs => ofIN (FI xs ds) i a e1).holds _ _ := q'
    obtain ⟨a, xs, h1, q2⟩ := onI_holds q1
    intro S1 H1 vs s1 t1 E1 dv
    obtain ⟨g', ws, hg', hH, hS, hw⟩ := own_of E1 h1
    rw [hg] at hg'
    cases hg'
    show spI K (n + 1) FI ((.ref g :: vs) ++ []) H1 Q _
    rw [List.append_nil]
    refine ⟨by rw [List.length_cons, dv.length, hn.at_ _ _ _ z], S1, g, ws, xs, vs, ds, rfl, E1.sub, hH, hS, hw, dv, ?_⟩
    cases y : FI xs ds with
    | no => rw [y] at q2; exact q2
    | ok d ys => rw [y] at q2; exact q2.elim
    | nw zs ys =>
      rw [y] at q2
      intro S2 H2 r vs' ws' s2 b2 u2 av hg2 hw2 hp hp2 hs2 hv
      have E2 := E1.turned h1 hg s2 b2 u2 av hg2 hw2
      obtain ⟨nw1, nw2⟩ := E1.newOf hp
      have N : NewL K Fr S2 H2 σ (e1.set i (.own a ys)) r zs := ⟨⟨vs', hp2, hv⟩, hs2, nw1, fun j hj => by
        refine nw2 j ?_
        obtain ⟨⟨b, zs', z1⟩, z2⟩ := hj
        refine ⟨?_, z2⟩
        by_cases e : j = i
        · rw [e]
          exact ⟨_, _, h1⟩
        · rw [List.getElem?_set_ne (Ne.symm e)] at z1
          exact ⟨_, _, z1⟩, E1.noR hp⟩
      exact q2 S2 H2 r (s1.trans s2) (fun z => nomatch z) E2 N
    | ex c x ys =>
      rw [y] at q2
      intro S2 H2 cls dd ws' s2 b2 u2 av hg2 hw2 xo
      exact q2 S2 H2 cls dd (s1.trans s2) (E1.turned h1 hg s2 b2 u2 av hg2 hw2) xo
/-- a new list at r, thrown away: where r changes, nothing of ours does -/
theorem EnvOk.thrown {S S' H H' : Hp} {σ : L2.St} {env : Ev} {r : Addr} {xs : List D} (E : EnvOk K Fr S σ H env) (N : NewL K Fr S H σ env r xs) (s : Same S S') (b : But r H H') (u : Same S' H') (v : Av S H S') : EnvOk K Fr S' σ H' env := by
  obtain ⟨vs, n1, n2⟩ := N.at_
  have hS' : S' r = none := v r (some_ne n1) N.off
  have t : Same H (upd H' r (.lst vs)) := fun c o e => by
    by_cases hc : c = r
    · subst hc
      rw [n1] at e
      rw [upd_same]
      exact e
    · rw [upd_ne hc]
      exact b c o hc e
  have E1 := E.mono s t (same_upd_of u hS') v
  refine ⟨E1.len, u, fun c o hg e => ?_, E1.grow, E1.avoid, fun j x o h1 h2 => ?_, E1.inj, E1.io, E1.gin, fun b hb => ?_⟩
  · have h := E1.frame c o hg e
    have hc : c ≠ r := fun z => by
      rw [z, N.new] at e
      cases e
    rw [upd_ne hc] at h
    exact h
  · have q := E1.slot j x o h1 h2
    cases x with
    | un => trivial
    | dat d => exact q
    | own a zs =>
      have np : ∀ p', o = some (.ref p') → p' ≠ r := fun p' z zz => by
        subst z zz
        exact N.apart j ⟨⟨_, _, h1⟩, h2⟩
      cases a with
      | false =>
        obtain ⟨p', vs', e1, e2, e3, e4, e5⟩ := q
        rw [upd_ne (np p' e1)] at e2
        exact ⟨p', vs', e1, e2, e3, e4, e5⟩
      | true =>
        obtain ⟨p', vs', e1, e2, e3, e4, e5⟩ := q
        rw [upd_ne (np p' e1)] at e2
        exact ⟨p', vs', e1, e2, e3, e4, e5⟩
  · obtain ⟨h1, h2, h3, h4⟩ := E1.prot b hb
    rw [upd_ne (fun z => N.nr (by rw [← z]; exact hb))] at h1
    exact ⟨h1, h2, h3, h4⟩
theorem sim_callT {te : TE} {dn : Ev → Rz (List D)} (h0 : SimN K Fr W p te dn) (ha : SimA K Fr W true t da) [hn : Len da n] [u : StillA da] : SimE K Fr W false (tCalG (spI K (n + 1) FI) [] W (tCons te t)) (dCallT FI dn da) := by
  intro S σ H env Q E q
  have q0 := Rz.bind_holds q
  refine h0 S σ H env _ E (Rz.imp q0 (fun xs e0 q1 S0 H0 g s0 t0 E0 N0 => ?_) fun _ _ _ z => z)
  have q' := Rz.bind_holds q1
  refine ha S0 σ H0 e0 _ E0 ?_
  cases z : da e0 with
  | no => rw [z] at q'; exact q'
  | ex c x e => rw [z] at q'; exact ExW.mono s0 q'
  | ok ds e1 =>
    rw [z] at q'
    have ee := u.at_ _ _ _ z
    subst ee
    have q2 : (ofT (FI xs ds) e1).holds _ _ := q'
    intro S1 H1 vs s1 t1 E1 dv
    have N1 : NewL K Fr S1 H1 σ e1 g xs := by
      obtain ⟨vs0, n1, n2⟩ := N0.at_
      have h1 := (t1 rfl).same _ _ n1
      exact ⟨⟨vs0, h1, n2.mono s1⟩, (t1 rfl).av g (some_ne n1) N0.off, N0.new, N0.apart, N0.nr⟩
    obtain ⟨ws, hH, hw⟩ := N1.at_
    show spI K (n + 1) FI ((.ref g :: vs) ++ []) H1 Q _
    rw [List.append_nil]
    refine ⟨by rw [List.length_cons, dv.length, hn.at_ _ _ _ z], S1, g, ws, xs, vs, ds, rfl, E1.sub, hH, N1.off, hw, dv, ?_⟩
    cases y : FI xs ds with
    | no => rw [y] at q2; exact q2
    | ok d ys =>
      rw [y] at q2
      intro S2 H2 v ws' s2 b2 u2 av hg2 hw2 hd
      exact q2 S2 H2 v ((s0.trans s1).trans s2) (fun z => nomatch z) (E1.thrown N1 s2 b2 u2 av) hd
    | nw zs ys =>
      rw [y] at q2
      intro S2 H2 r vs' ws' s2 b2 u2 av hg2 hw2 hp hp2 hs2 hv
      have E2 := E1.thrown N1 s2 b2 u2 av
      obtain ⟨nw1, nw2⟩ := E1.newOf hp
      have N : NewL K Fr S2 H2 σ e1 r zs := ⟨⟨vs', hp2, hv⟩, hs2, nw1, nw2, E1.noR hp⟩
      obtain ⟨S3, s3, _, E3, hd⟩ := N.stand E2
      exact q2 S3 H2 _ (((s0.trans s1).trans s2).trans s3) (fun z => nomatch z) E3 hd
    | ex c x ys =>
      rw [y] at q2
      intro S2 H2 cls dd ws' s2 b2 u2 av hg2 hw2 xo
      exact q2 S2 H2 cls dd ((s0.trans s1).trans s2) (E1.thrown N1 s2 b2 u2 av) xo
end
end
end DL
set_option Elab.async false
set_option linter.all false
set_option maxRecDepth 100000
set_option maxHeartbeats 4000000
/-! DL, part d: statements, loops, a def by its body. -/
namespace DL
open PySem PySem.Spec PyProof.Rows L2

inductive Rs where
  | nx (e : Ev)
  | rt (d : D) (e : Ev)
  | rn (xs : List D) (e : Ev)
  | bk (e : Ev)
  | ct (e : Ev)
  | ex (c : Str) (x : D) (e : Ev)
  | no
section
variable (K : PySem.W.Frag) (F : Fm) (W : WX)
def Rs.holds (r : Rs) (S : Hp) (D : Ends) : Prop := match r with
  | .nx e => ∀ S' σ H, Same S S' → EnvOk K F S' σ H e → D.nx σ H
  | .rt d e => ∀ S' σ H v, Same S S' → EnvOk K F S' σ H e → Dt K S' v d → D.rt v H
  | .rn xs e => ∀ S' σ H p, Same S S' → EnvOk K F S' σ H e → NewL K F S' H σ e p xs → D.rt (.ref p) H
  | .bk e => ∀ S' σ H, Same S S' → EnvOk K F S' σ H e → D.bk σ H
  | .ct e => ∀ S' σ H, Same S S' → EnvOk K F S' σ H e → D.ct σ H
  | .ex c x e => ∀ S' σ H cls dd, Same S S' → EnvOk K F S' σ H e → XOk K S' c x cls dd → W cls dd σ H
  | .no => False
def SimS (ts : TS) (ds : Ev → Rs) : Prop := ∀ S σ H env D, EnvOk K F S σ H env → (ds env).holds K F W S D → ts D σ H
end
theorem Rs.mono {K : PySem.W.Frag} {F : Fm} {W : WX} {S S1 : Hp} {D : Ends} {r : Rs} (s : Same S S1) (h : r.holds K F W S D) : r.holds K F W S1 D := by
  cases r with
  | nx e => exact fun S' σ H s' => h S' σ H (s.trans s')
  | rt d e => exact fun S' σ H v s' => h S' σ H v (s.trans s')
  | rn d e => exact fun S' σ H v s' => h S' σ H v (s.trans s')
  | bk e => exact fun S' σ H s' => h S' σ H (s.trans s')
  | ct e => exact fun S' σ H s' => h S' σ H (s.trans s')
  | ex c x e => exact fun S' σ H cls dd s' => h S' σ H cls dd (s.trans s')
  | no => exact h
structure QS (X : Cx) (W : WX) (st : Stmt) (ts : TS) (ds : Ev → Rs) : Prop where
  ps : PS X st ts
  sim : ∀ F, SimS X.K F W ts ds
structure QSs (X : Cx) (W : WX) (st : List Stmt) (ts : TS) (ds : Ev → Rs) : Prop where
  ps : PSs X st ts
  sim : ∀ F, SimS X.K F W ts ds

/-! ### the combinators -/
def Rz.toS {α : Type} (r : Rz α) (k : α → Ev → Rs) : Rs := match r with
  | .ok a e => k a e
  | .ex c x e => .ex c x e
  | .no => .no
def Rs.next (r : Rs) (k : Ev → Rs) : Rs := match r with
  | .nx e => k e
  | .rt d e => .rt d e
  | .rn xs e => .rn xs e
  | .bk e => .bk e
  | .ct e => .ct e
  | .ex c x e => .ex c x e
  | .no => .no
def os (o : Option Ev) : Rs := match o with
  | some e => .nx e
  | none => .no
def dPass (e : Ev) : Rs := .nx e
def dSeq (a b : Ev → Rs) (e : Ev) : Rs := (a e).next b
def dSet (i : Nat) (a : Ev → Rz D) (e : Ev) : Rs := (a e).toS fun d e1 => os (put i (.dat d) e1)
def dNew (i : Nat) (a : Ev → Rz (List D)) (e : Ev) : Rs := (a e).toS fun xs e1 => os (put i (.own false xs) e1)
def dDrop (a : Ev → Rz D) (e : Ev) : Rs := (a e).toS fun _ e1 => .nx e1
def dRet (a : Ev → Rz D) (e : Ev) : Rs := (a e).toS fun d e1 => .rt d e1
def dRetN (a : Ev → Rz (List D)) (e : Ev) : Rs := (a e).toS fun d e1 => .rn d e1
/-- a list of the def's own is handed back -/
def dGive (i : Nat) (e : Ev) : Rs := match e[i]? with
  | some (.own false xs) => .rn xs (e.set i .un)
  | _ => .no
def dIf (t : Ev → Rz Bool) (a b : Ev → Rs) (e : Ev) : Rs := (t e).toS fun c e1 => if c = true then a e1 else b e1
def dBreak (e : Ev) : Rs := .bk e
def dCont (e : Ev) : Rs := .ct e
def dNever (_ : Ev) : Rs := .no
def onS (i : Nat) (e : Ev) (k : Bool → List D → Rs) : Rs := match e[i]? with
  | some (.own a xs) => k a xs
  | _ => .no
def dAppend (i : Nat) (a : Ev → Rz D) (e : Ev) : Rs := onS i e fun _ _ => (a e).toS fun d e1 => onS i e1 fun b xs => if xs.length < 1000000 then .nx (e1.set i (.own b (xs ++ [d]))) else .no
def dPop (i : Nat) (e : Ev) : Rs := onS i e fun b xs => if xs.length = 0 then .no else .nx (e.set i (.own b xs.dropLast))
/-- xs[j] = e: the value first -/
def dPutAt (i : Nat) (j a : Ev → Rz D) (e : Ev) : Rs := (a e).toS fun d e1 => onS i e1 fun _ _ => (j e1).toS fun y e2 => match y with
  | .int k => onS i e2 fun b xs => (match ixN xs.length k with
    | some n => .nx (e2.set i (.own b (xs.set n d)))
    | none => .no)
  | _ => .no
def after (r : Rs) (k : Ev → Rs) : Rs := match r with
  | .nx e => k e
  | .ct e => k e
  | .bk e => .nx e
  | .rt x e => .rt x e
  | .rn x e => .rn x e
  | .ex c x e => .ex c x e
  | .no => .no
def dLoop (g : D → Ev → Option Ev) (body : Ev → Rs) : List D → Ev → Rs
  | [], e => .nx e
  | d :: r, e => match g d e with
    | none => .no
    | some e1 => after (body e1) (dLoop g body r)
def dFor (it : Ev → Rz (List D)) (g : D → Ev → Option Ev) (body : Ev → Rs) (e : Ev) : Rs := (it e).toS fun ds e1 => dLoop g body ds e1
def dWhile (t : Ev → Rz Bool) (body : Ev → Rs) : Nat → Ev → Rs
  | 0, _ => .no
  | n + 1, e => (t e).toS fun c e1 => if c = true then after (body e1) (dWhile t body n) else .nx e1

section
variable {K : PySem.W.Frag} {F : Fm} {W : WX} {p : Bool} {D : Ends}
theorem toS_holds {α : Type} {r : Rz α} {k : α → Ev → Rs} {S : Hp} (h : (r.toS k).holds K F W S D) {σ : L2.St} : r.holds (fun a e => (k a e).holds K F W S D) (ExW K F W S σ) := by
  cases r with
  | ok a e => exact h
  | ex c x e => exact fun S' H' cls dd s E xo => h S' σ H' cls dd s E xo
  | no => exact h
theorem onS_holds {i : Nat} {e : Ev} {k : Bool → List DL.D → Rs} {S : Hp} (h : (onS i e k).holds K F W S D) : ∃ a xs, e[i]? = some (.own a xs) ∧ (k a xs).holds K F W S D := by
  unfold onS at h
  cases q : e[i]? with
  | none => rw [q] at h; exact h.elim
  | some s =>
    rw [q] at h
    cases s with
    | un => exact h.elim
    | dat d => exact h.elim
    | own a xs => exact ⟨a, xs, rfl, h⟩
theorem os_holds {o : Option Ev} {S : Hp} (h : (os o).holds K F W S D) : ∃ e, o = some e ∧ ∀ S' σ H, Same S S' → EnvOk K F S' σ H e → D.nx σ H := by
  cases o with
  | none => exact h.elim
  | some e => exact ⟨e, rfl, h⟩
end

section
variable {X : Cx} {W : WX} {p : Bool}
theorem qss_nil : QSs X W [] tNext dPass := ⟨pss_nil, fun F S σ H env D E q => q S σ H (Same.refl _) E⟩
theorem qss_one {st : Stmt} {t : TS} {d : Ev → Rs} (h : QS X W st t d) : QSs X W [st] t d := ⟨pss_one h.ps, h.sim⟩
theorem qss_cons {st : Stmt} {rest : List Stmt} {t u : TS} {d d' : Ev → Rs} (h : QS X W st t d) (h' : QSs X W rest u d') : QSs X W (st :: rest) (tSeq t u) (dSeq d d') := by
  refine ⟨pss_cons h.ps h'.ps, fun F S σ H env D E q => h.sim F S σ H env _ E ?_⟩
  have q' : ((d env).next d').holds X.K F W S D := q
  cases z : d env with
  | nx e => rw [z] at q'; exact fun S1 σ1 H1 s1 E1 => h'.sim F S1 σ1 H1 e D E1 (Rs.mono s1 q')
  | rt x e => rw [z] at q'; exact q'
  | rn x e => rw [z] at q'; exact q'
  | bk e => rw [z] at q'; exact q'
  | ct e => rw [z] at q'; exact q'
  | ex c x e => rw [z] at q'; exact q'
  | no => rw [z] at q'; exact q'
theorem qs_pass {pos : Pos} : QS X W (.Pass pos) tNext dPass := ⟨ps_pass, fun F S σ H env D E q => q S σ H (Same.refl _) E⟩
theorem qs_break {pos : Pos} : QS X W (.Break pos) tBreak dBreak := ⟨ps_break, fun F S σ H env D E q => q S σ H (Same.refl _) E⟩
theorem qs_cont {pos : Pos} : QS X W (.Continue pos) tCont dCont := ⟨ps_continue, fun F S σ H env D E q => q S σ H (Same.refl _) E⟩
theorem qs_never {st : Stmt} : QS X W st tNever dNever := ⟨ps_never, fun F S σ H env D E q => q⟩
theorem sim_set {i : Nat} {te : TE} {de : Ev → Rz D} {K : PySem.W.Frag} {F : Fm} (h : SimE K F W p te de) : SimS K F W (tAsg te (gName i)) (dSet i de) := by
  intro S σ H env D E q
  refine h S σ H env _ E (Rz.imp (toS_holds q) (fun d e1 q1 S1 H1 v s1 t1 E1 d1 => ?_) fun _ _ _ z => z)
  obtain ⟨e2, ep, k⟩ := os_holds q1
  exact k S1 _ H1 s1 (E1.putDat ep d1)
theorem sim_new {i : Nat} {te : TE} {dn : Ev → Rz (List D)} {K : PySem.W.Frag} {F : Fm} (h : SimN K F W p te dn) : SimS K F W (tAsg te (gName i)) (dNew i dn) := by
  intro S σ H env D E q
  refine h S σ H env _ E (Rz.imp (toS_holds q) (fun d e1 q1 S1 H1 v s1 t1 E1 d1 => ?_) fun _ _ _ z => z)
  obtain ⟨e2, ep, k⟩ := os_holds q1
  exact k S1 _ H1 s1 (E1.putNew ep d1)
theorem qs_set {i : Nat} {x : Str} {pos' pos : Pos} {e : Expr} {te : TE} {de : Ev → Rz D} (hN : X.N.Nodup) (hi : X.N[i]? = some x) (hx : Loc X.env.scope x) (h : QE X W p e te de) (hs : swapsWith e (some (.Name x pos')) pos.line X.env = pure false := by rfl)
    (hf : X.fn x = true ∨ X.env.scope.names.lookup x = some .local := by first | exact .inl rfl | exact .inr rfl | assumption) : QS X W (.Assign [.Name x pos'] e pos) (tAsg te (gName i)) (dSet i de) := ⟨ps_set hN hi hx h.pe hs hf, fun F => sim_set (h.sim F)⟩
theorem qs_new {i : Nat} {x : Str} {pos' pos : Pos} {e : Expr} {te : TE} {dn : Ev → Rz (List D)} (hN : X.N.Nodup) (hi : X.N[i]? = some x) (hx : Loc X.env.scope x) (h : QN X W p e te dn) (hs : swapsWith e (some (.Name x pos')) pos.line X.env = pure false := by rfl)
    (hf : X.fn x = true ∨ X.env.scope.names.lookup x = some .local := by first | exact .inl rfl | exact .inr rfl | assumption) : QS X W (.Assign [.Name x pos'] e pos) (tAsg te (gName i)) (dNew i dn) := ⟨ps_set hN hi hx h.pe hs hf, fun F => sim_new (h.sim F)⟩
theorem qs_expr {e : Expr} {te : TE} {de : Ev → Rz D} {pos : Pos} (h : QE X W p e te de) (hs : swapsWith e none pos.line X.env = pure false := by rfl) : QS X W (.Expr e pos) (tDrop te) (dDrop de) :=
  ⟨ps_expr h.pe hs, fun F S σ H env D E q => h.sim F S σ H env _ E (Rz.imp (toS_holds q) (fun d e1 q1 S1 H1 v s1 t1 E1 d1 => q1 S1 σ H1 s1 E1) fun _ _ _ z => z)⟩
theorem qs_ret {e : Expr} {te : TE} {de : Ev → Rz D} {pos : Pos} (h : QE X W p e te de) : QS X W (.Return (some e) pos) (tRet te) (dRet de) :=
  ⟨ps_ret h.pe, fun F S σ H env D E q => h.sim F S σ H env _ E (Rz.imp (toS_holds q) (fun d e1 q1 S1 H1 v s1 t1 E1 d1 => q1 S1 σ H1 v s1 E1 d1) fun _ _ _ z => z)⟩
theorem qs_retn {e : Expr} {te : TE} {de : Ev → Rz (List D)} {pos : Pos} (h : QN X W p e te de) : QS X W (.Return (some e) pos) (tRet te) (dRetN de) :=
  ⟨ps_ret h.pe, fun F S σ H env D E q => h.sim F S σ H env _ E (Rz.imp (toS_holds q) (fun d e1 q1 S1 H1 v s1 t1 E1 d1 => q1 S1 σ H1 v s1 E1 d1) fun _ _ _ z => z)⟩
theorem qs_give (i : Nat) {x : Str} {pos pos' : Pos} (hN : X.N[i]? = some x := by rfl) (hv : Vis X.env.scope x := by first | exact Or.inl rfl | exact Or.inr (Or.inl rfl) | exact Or.inr (Or.inr rfl)) (hd : (x == ("__debug__" : Str)) = false := by decide)
    (hcd : (x == ("__classdict__" : Str)) = false := by decide) : QS X W (.Return (some (.Name x pos)) pos') (tRet (tVar i)) (dGive i) := by
  refine ⟨ps_ret (pe_var hN hv hd hcd), fun F S σ H env D E q => ?_⟩
  unfold dGive at q
  cases z : env[i]? with
  | none => rw [z] at q; exact q.elim
  | some s =>
    rw [z] at q
    cases s with
    | un => exact q.elim
    | dat d => exact q.elim
    | own a xs =>
      cases a with
      | true => exact q.elim
      | false =>
        have q' : ∀ S' σ H p, Same S S' → EnvOk X.K F S' σ H (env.set i .un) → NewL X.K F S' H σ (env.set i .un) p xs → D.rt (.ref p) H := q
        have hi : i < env.length := (List.getElem?_eq_some_iff.mp z).1
        have hi' : i < σ.length := by rw [E.len]; exact hi
        obtain ⟨r, vs, e1, e2, e3, e4, e5⟩ := E.slot i _ _ z (List.getElem?_eq_getElem hi')
        have e0 : σ[i]? = some (some (.ref r)) := by rw [List.getElem?_eq_getElem hi', e1]
        have E1 := E.putUn (i := i) (o := some (.ref r)) (env' := env.set i .un) (by unfold put; rw [z])
        have hs : σ.set i (some (.ref r)) = σ := by
          refine List.ext_getElem? fun j => ?_
          by_cases hj : j = i
          · rw [hj, List.getElem?_set_self hi', e0]
          · rw [List.getElem?_set_ne (Ne.symm hj)]
        rw [hs] at E1
        refine ⟨_, e0, q' S σ H r (Same.refl _) E1 ⟨⟨vs, e2, e4⟩, e3, e5, fun j ⟨⟨a, zs, z1⟩, z2⟩ => ?_, fun rr => (E.prot r rr).2.2.2 i ⟨⟨_, _, z⟩, e0⟩⟩⟩
        by_cases hj : j = i
        · rw [hj, List.getElem?_set_self hi] at z1
          cases z1
        · rw [List.getElem?_set_ne (Ne.symm hj)] at z1
          exact E.inj j i r hj ⟨⟨_, _, z1⟩, z2⟩ ⟨⟨_, _, z⟩, e0⟩
theorem qs_if {c : Expr} {a b : List Stmt} {tc : TT} {t u : TS} {dc : Ev → Rz Bool} {d d' : Ev → Rs} {pos : Pos} (hc : QT X W p c tc dc) (h : QSs X W a t d) (h' : QSs X W b u d') : QS X W (.If c a b pos) (tIfS tc t u) (dIf dc d d') := by
  refine ⟨ps_if hc.pt h.ps h'.ps, fun F S σ H env D E q => hc.sim F S σ H env _ E (Rz.imp (toS_holds q) (fun b e1 q1 S1 H1 s1 t1 E1 => ?_) fun _ _ _ z => z)⟩
  cases b with
  | true => exact h.sim F S1 σ H1 e1 D E1 (Rs.mono s1 q1)
  | false => exact h'.sim F S1 σ H1 e1 D E1 (Rs.mono s1 q1)

/-! ### a list's methods -/
theorem ty_list {K : PySem.W.Frag} {H : Hp} {g : Addr} {vs : List V} (h : H g = some (.lst vs)) : tyV K "list" (.ref g) H := Or.inl ⟨rfl, _, .inl (.inl h)⟩
theorem sim_append {i : Nat} {te : TE} {de : Ev → Rz D} {K : PySem.W.Frag} {F : Fm} (h : SimE K F W p te de) : SimS K F W (tDrop (tBM K "list" rAppend (tVar i) (tCons te tNil))) (dAppend i de) := by
  intro S σ H env D E q
  obtain ⟨a0, xs0, h0, q0⟩ := onS_holds q
  obtain ⟨g, ws0, hg, hH, _, _⟩ := own_of E h0
  refine ⟨.ref g, hg, ty_list hH, ?_⟩
  refine h S σ H env _ E (Rz.imp (toS_holds q0) (fun d e1 q1 S1 H1 v s1 t1 E1 d1 => ?_) fun _ _ _ z => z)
  obtain ⟨a, xs, h1, q2⟩ := onS_holds q1
  obtain ⟨g', ws, hg', hH1, hS1, hw⟩ := own_of E1 h1
  rw [hg] at hg'
  cases hg'
  by_cases hz : xs.length < 1000000
  · rw [if_pos hz] at q2
    refine ⟨g, ws, v, rfl, rfl, hH1, ?_, q2 S1 σ _ s1 (E1.change h1 hg (hw.append (.cons d1 .nil)))⟩
    rw [hw.length]
    exact Nat.lt_of_lt_of_le hz (size_ok (Nat.le_refl _))
  · rw [if_neg hz] at q2
    exact q2.elim
theorem qs_append (i : Nat) {x : Str} {e : Expr} {te : TE} {de : Ev → Rz D} {np apos cpos pos : Pos} (h : QE X W p e te de) (hx : PE X (.Name x np) (tVar i))
    (hp : PE X (.Call (.Attribute (.Name x np) "append" apos) [e] [] cpos) (tBM X.K "list" rAppend (tVar i) (tCons te tNil)))
    (hs : swapsWith (.Call (.Attribute (.Name x np) "append" apos) [e] [] cpos) none pos.line X.env = pure false := by rfl) :
    QS X W (.Expr (.Call (.Attribute (.Name x np) "append" apos) [e] [] cpos) pos) (tDrop (tBM X.K "list" rAppend (tVar i) (tCons te tNil))) (dAppend i de) := ⟨ps_expr hp hs, fun F => sim_append (h.sim F)⟩
theorem sim_pop {i : Nat} {K : PySem.W.Frag} {F : Fm} : SimS K F W (tDrop (tBM0 K "list" rPop (tVar i))) (dPop i) := by
  intro S σ H env D E q
  obtain ⟨a, xs, h0, q0⟩ := onS_holds q
  obtain ⟨g, ws, hg, hH, hS, hw⟩ := own_of E h0
  by_cases hz : xs.length = 0
  · rw [if_pos hz] at q0
    exact q0.elim
  · rw [if_neg hz] at q0
    have hl := hw.length
    have hlt : ws.length - 1 < ws.length := by omega
    exact ⟨.ref g, hg, ty_list hH, g, ws, ws[ws.length - 1], rfl, rfl, hH, List.getElem?_eq_getElem hlt, q0 S σ _ (Same.refl _) (E.change h0 hg hw.dropLast)⟩
theorem qs_pop (i : Nat) {x : Str} {np apos cpos pos : Pos} (hp : PE X (.Call (.Attribute (.Name x np) "pop" apos) [] [] cpos) (tBM0 X.K "list" rPop (tVar i)))
    (hs : swapsWith (.Call (.Attribute (.Name x np) "pop" apos) [] [] cpos) none pos.line X.env = pure false := by rfl) :
    QS X W (.Expr (.Call (.Attribute (.Name x np) "pop" apos) [] [] cpos) pos) (tDrop (tBM0 X.K "list" rPop (tVar i))) (dPop i) := ⟨ps_expr hp hs, fun F => sim_pop⟩
theorem sim_putAt {i : Nat} {te tj : TE} {de dj : Ev → Rz D} {K : PySem.W.Frag} {F : Fm} (h : SimE K F W p te de) (hj : SimE K F W p tj dj) : SimS K F W (tAsg te (gSub (tVar i) tj rSetL)) (dPutAt i dj de) := by
  intro S σ H env D E q
  refine h S σ H env _ E (Rz.imp (toS_holds q) (fun d e1 q1 S1 H1 v s1 t1 E1 d1 => ?_) fun _ _ _ z => z)
  obtain ⟨a0, xs0, h0, q0⟩ := onS_holds q1
  obtain ⟨g, ws0, hg, hH, _, _⟩ := own_of E1 h0
  refine ⟨.ref g, hg, ?_⟩
  refine hj S1 σ H1 e1 _ E1 (Rz.imp (toS_holds q0) (fun y e2 q2 S2 H2 w s2 t2 E2 d2 => ?_) fun _ _ _ z => z.mono s1)
  cases d2 with
  | int k =>
    obtain ⟨a, xs, h2, q3⟩ := onS_holds q2
    obtain ⟨g', ws, hg', hH2, hS2, hw⟩ := own_of E2 h2
    rw [hg] at hg'
    cases hg'
    cases hz : ixN xs.length k with
    | none => rw [hz] at q3; exact q3.elim
    | some n =>
      rw [hz] at q3
      exact ⟨g, ws, k, n, rfl, rfl, hH2, by rw [hw.length]; exact hz, q3 S2 σ _ (s1.trans s2) (E2.change h2 hg (hw.set (d1.mono s2) n))⟩
  | _ => exact q2.elim
theorem qs_putAt (i : Nat) {x : Str} {e j : Expr} {te tj : TE} {de dj : Ev → Rz D} {np tpos pos : Pos} (h : QE X W p e te de) (hx : PE X (.Name x np) (tVar i)) (hj : QE X W p j tj dj)
    (hp : PS X (.Assign [.Subscript (.Name x np) j tpos] e pos) (tAsg te (gSub (tVar i) tj rSetL))) : QS X W (.Assign [.Subscript (.Name x np) j tpos] e pos) (tAsg te (gSub (tVar i) tj rSetL)) (dPutAt i dj de) :=
  ⟨hp, fun F => sim_putAt (h.sim F) (hj.sim F)⟩

/-! ### what is walked -/
/-- the items of a walk, whatever comes beside -/
def IterOk (K : PySem.W.Frag) (S : Hp) (J : It) (ds : List D) : Prop := ∀ (i : Nat) (S' H' : Hp), Same S S' → Same S' H' →
  (∀ d, ds[i]? = some d → J.go i H' ∧ ∀ x H'', J.yld i H' x H'' → Same H' H'' ∧ ∃ S'', Same S' S'' ∧ Same S'' H'' ∧ Av S' H' S'' ∧ Dt K S'' x d) ∧ (ds.length ≤ i → J.stop i H')
def SimI (K : PySem.W.Frag) (F : Fm) (W : WX) (p : Bool) (wi : TI) (di : Ev → Rz (List D)) : Prop := ∀ S σ H env R, EnvOk K F S σ H env →
  (di env).holds (fun ds e => ∀ S' H' J, Same S S' → (p = true → Gr S H S' H') → EnvOk K F S' σ H' e → IterOk K S' J ds → R J H') (ExW K F W S σ) → wi σ H R
structure QI (X : Cx) (W : WX) (p : Bool) (tg iter : Expr) (wi : TI) (di : Ev → Rz (List D)) : Prop where
  pi : PI X tg iter wi
  sim : ∀ F, SimI X.K F W p wi di
/-- targets: the slots js alone change -/
def OnlyAt (js : List Nat) (σ σ' : L2.St) : Prop := σ'.length = σ.length ∧ ∀ j, j ∉ js → σ'[j]? = σ[j]?
def SimG (K : PySem.W.Frag) (F : Fm) (js : List Nat) (g : TG) (dg : D → Ev → Option Ev) : Prop := ∀ S σ H env v d env' Q, EnvOk K F S σ H env → Dt K S v d → dg d env = some env' →
  (∀ σ', EnvOk K F S σ' H env' → OnlyAt js σ σ' → Q σ' H) → g v σ H Q
structure QG (X : Cx) (tg : Expr) (js : List Nat) (g : TG) (dg : D → Ev → Option Ev) : Prop where
  pg : PG X tg g
  sim : ∀ F, SimG X.K F js g dg
def gNm (i : Nat) (d : D) (e : Ev) : Option Ev := put i (.dat d) e
def gTwo (g h : D → Ev → Option Ev) (d : D) (e : Ev) : Option Ev := match d with
  | .tup [a, b] => (g a e).bind fun e1 => h b e1
  | _ => none
def gThree (g h k : D → Ev → Option Ev) (d : D) (e : Ev) : Option Ev := match d with
  | .tup [a, b, c] => (g a e).bind fun e1 => (h b e1).bind fun e2 => k c e2
  | _ => none
theorem only_set {σ : L2.St} {i : Nat} {v : Option V} : OnlyAt [i] σ (σ.set i v) := ⟨List.length_set, fun j hj => List.getElem?_set_ne (fun e => hj (by simp [e]))⟩
theorem OnlyAt.trans {js ks : List Nat} {σ σ1 σ2 : L2.St} (a : OnlyAt js σ σ1) (b : OnlyAt ks σ1 σ2) : OnlyAt (js ++ ks) σ σ2 :=
  ⟨b.1.trans a.1, fun j hj => (b.2 j fun z => hj (List.mem_append_right _ z)).trans (a.2 j fun z => hj (List.mem_append_left _ z))⟩
theorem sim_gnm {K : PySem.W.Frag} {F : Fm} {i : Nat} : SimG K F [i] (gName i) (gNm i) := fun S σ H env v d env' Q E hd h q => q _ (E.putDat h hd) only_set
theorem qg_name {i : Nat} {x : Str} {pos : Pos} (hN : X.N.Nodup) (hi : X.N[i]? = some x) (hx : Loc X.env.scope x)
    (hf : X.fn x = true ∨ X.env.scope.names.lookup x = some .local := by first | exact .inl rfl | exact .inr rfl | assumption) : QG X (.Name x pos) [i] (gName i) (gNm i) := ⟨pg_name hN hi hx hf, fun F => sim_gnm⟩
theorem sim_two {K : PySem.W.Frag} {F : Fm} {js ks : List Nat} {g h : TG} {dg dh : D → Ev → Option Ev} (hg : SimG K F js g dg) (hh : SimG K F ks h dh) : SimG K F (js ++ ks) (gTup K 2 (gCons g (gCons h gNil))) (gTwo dg dh) := by
  intro S σ H env v d env' Q E hd hq q
  cases hd with
  | tup ht ha =>
    cases ha with
    | nil => exact absurd (show (none : Option Ev) = some env' from hq) (by simp)
    | cons a1 t1 =>
      cases t1 with
      | nil => exact absurd (show (none : Option Ev) = some env' from hq) (by simp)
      | cons a2 t2 =>
        cases t2 with
        | cons a3 t3 => exact absurd (show (none : Option Ev) = some env' from hq) (by simp)
        | nil =>
          obtain ⟨e1, q1, q2⟩ := Option.bind_eq_some_iff.mp (show ((dg _ env).bind fun e1 => dh _ e1) = some env' from hq)
          refine ⟨_, _, rfl, same_t E.sub ht, rfl, _, _, rfl, hg S σ H env _ _ e1 _ E a1 q1 fun σ1 E1 o1 => ?_⟩
          exact ⟨_, _, rfl, hh S σ1 H e1 _ _ env' _ E1 a2 q2 fun σ2 E2 o2 => ⟨rfl, q σ2 E2 (o1.trans o2)⟩⟩
  | _ => exact absurd (show (none : Option Ev) = some env' from hq) (by simp)
theorem qg_two {a b : Expr} {kk : Nat} {pos : Pos} {js ks : List Nat} {g h : TG} {dg dh : D → Ev → Option Ev} (hc : X.calm = true) (ha : QG X a js g dg) (hb : QG X b ks h dh)
    (hp : PG X (.Tuple [a, b] kk pos) (gTup X.K 2 (gCons g (gCons h gNil)))) : QG X (.Tuple [a, b] kk pos) (js ++ ks) (gTup X.K 2 (gCons g (gCons h gNil))) (gTwo dg dh) := ⟨hp, fun F => sim_two (ha.sim F) (hb.sim F)⟩

/-! ### for, while -/
theorem after_holds {K : PySem.W.Frag} {F : Fm} {W : WX} {S : Hp} {D : Ends} {r : Rs} {k : Ev → Rs} {N : L2.St → Hp → Prop} (h : (after r k).holds K F W S D) (hN : ∀ S' σ H e, Same S S' → EnvOk K F S' σ H e → (k e).holds K F W S' D → N σ H) :
    r.holds K F W S { D with nx := N, ct := N, bk := D.nx } := by
  cases r with
  | nx e => exact fun S' σ H s E => hN S' σ H e s E (Rs.mono s h)
  | ct e => exact fun S' σ H s E => hN S' σ H e s E (Rs.mono s h)
  | bk e => exact h
  | rt d e => exact h
  | rn d e => exact h
  | ex c x e => exact h
  | no => exact h
theorem dLoop_cons {g : D → Ev → Option Ev} {body : Ev → Rs} {d : D} {r : List D} {e : Ev} : dLoop g body (d :: r) e = match g d e with
    | none => .no
    | some e1 => after (body e1) (dLoop g body r) := rfl
theorem dWhile_succ {t : Ev → Rz Bool} {body : Ev → Rs} {n : Nat} {e : Ev} : dWhile t body (n + 1) e = (t e).toS fun c e1 => if c = true then after (body e1) (dWhile t body n) else .nx e1 := rfl
theorem sim_for {K : PySem.W.Frag} {F : Fm} {wi : TI} {di : Ev → Rz (List D)} {js : List Nat} {g : TG} {dg : D → Ev → Option Ev} {tb : TS} {db : Ev → Rs} (hi : SimI K F W p wi di) (hg : SimG K F js g dg) (hb : SimS K F W tb db) :
    SimS K F W (tFor wi g tb) (dFor di dg db) := by
  intro S σ H env D E q
  refine hi S σ H env _ E (Rz.imp (toS_holds q) (fun ds e1 q1 S1 H1 J s1 t1 E1 io => ?_) fun _ _ _ z => z)
  refine ⟨fun i m σ' H' => m + i = ds.length ∧ ∃ S' env', Same S1 S' ∧ EnvOk K F S' σ' H' env' ∧ (dLoop dg db (ds.drop i) env').holds K F W S' D, ⟨ds.length, by omega, S1, e1, Same.refl _, E1, Rs.mono s1 q1⟩, ?_⟩
  rintro i m σ' H' ⟨hm, S', env', s', E', qq⟩
  obtain ⟨io1, io2⟩ := io i S' H' s' E'.sub
  by_cases hlt : i < ds.length
  · rw [List.drop_eq_getElem_cons hlt, dLoop_cons] at qq
    obtain ⟨go, yld⟩ := io1 ds[i] (List.getElem?_eq_getElem hlt)
    refine .inr ⟨go, fun σ2 H2 => ∃ S2 env2, Same S1 S2 ∧ EnvOk K F S2 σ2 H2 env2 ∧ (dLoop dg db (ds.drop (i + 1)) env2).holds K F W S2 D, fun σ2 H2 ⟨S2, env2, a1, a2, a3⟩ => ⟨m - 1, by omega, by omega, S2, env2, a1, a2, a3⟩, fun x H'' y => ?_⟩
    obtain ⟨t2, S'', s2, u2, av2, dx⟩ := yld x H'' y
    have E2 := E'.mono s2 t2 u2 av2
    cases z : dg ds[i] env' with
    | none =>
      rw [z] at qq
      exact qq.elim
    | some e2 =>
      rw [z] at qq
      refine hg S'' σ' H'' env' x ds[i] e2 _ E2 dx z fun σ3 E3 _ => hb S'' σ3 H'' e2 _ E3 (after_holds (Rs.mono s2 qq) fun S4 σ4 H4 e4 s4 E4 q4 => ?_)
      exact ⟨S4, e4, (s'.trans s2).trans s4, E4, q4⟩
  · refine .inl ⟨io2 (by omega), ?_⟩
    rw [List.drop_eq_nil_of_le (by omega)] at qq
    exact qq S' σ' H' (Same.refl _) E'
theorem qs_for {tg iter : Expr} {body : List Stmt} {wi : TI} {di : Ev → Rz (List D)} {js : List Nat} {g : TG} {dg : D → Ev → Option Ev} {tb : TS} {db : Ev → Rs} {pos : Pos} (hp : PassesOwn (model X.prog X.w) X.A X.env X.xe) (hc : X.calm = true)
    (hi : QI X W p tg iter wi di) (hg : QG X tg js g dg) (hb : QSs X W body tb db) (hs : ∀ x, foldedSetIterable iter X.env x = pure x := by intro _; rfl) : QS X W (.For tg iter body [] pos) (tFor wi g tb) (dFor di dg db) :=
  ⟨ps_for hp hc hi.pi hg.pg hb.ps hs, fun F => sim_for (hi.sim F) (hg.sim F) (hb.sim F)⟩
theorem qs_while (n : Nat) {c : Expr} {body : List Stmt} {tc : TT} {tb : TS} {dc : Ev → Rz Bool} {db : Ev → Rs} {pos : Pos} (hp : PassesOwn (model X.prog X.w) X.A X.env X.xe) (hc : QT X W p c tc dc) (hb : QSs X W body tb db) :
    QS X W (.While c body [] pos) (tWhile tc tb) (dWhile dc db n) := by
  refine ⟨ps_while hp hc.pt hb.ps, fun F S σ H env D E q => ?_⟩
  refine ⟨fun m σ' H' => ∃ S' env', EnvOk X.K F S' σ' H' env' ∧ (dWhile dc db m env').holds X.K F W S' D, ⟨n, S, env, E, q⟩, ?_⟩
  rintro m σ' H' ⟨S', env', E', qq⟩
  cases m with
  | zero => exact qq.elim
  | succ m =>
    rw [dWhile_succ] at qq
    refine hc.sim F S' σ' H' env' _ E' (Rz.imp (toS_holds qq) (fun b e1 q1 S1 H1 s1 t1 E1 => ?_) fun _ _ _ z => z)
    cases b with
    | false => exact q1 S1 σ' H1 s1 E1
    | true =>
      refine ⟨fun σ2 H2 => ∃ S2 env2, EnvOk X.K F S2 σ2 H2 env2 ∧ (dWhile dc db m env2).holds X.K F W S2 D, fun σ2 H2 z => ⟨m, Nat.lt_succ_self m, z⟩, ?_⟩
      exact hb.sim F S1 σ' H1 e1 _ E1 (after_holds (Rs.mono s1 q1) fun S2 σ2 H2 e2 s2 E2 q2 => ⟨S2, e2, E2, q2⟩)
end

/-! ### a def -/
def runP (B : Ev → Rs) (m : Nat) (ds : List D) : Fz := match B (ds.map .dat ++ List.replicate (m - ds.length) .un) with
  | .nx _ => .ok .non
  | .rt d _ => .ok d
  | .rn xs _ => .nw xs
  | .ex c x _ => .ex c x
  | _ => .no
def io0 (e : Ev) (k : List D → Iz) : Iz := match e[(0 : Nat)]? with
  | some (.own true ys) => k ys
  | _ => .no
def runI (B : Ev → Rs) (m : Nat) (xs ds : List D) : Iz := match B (.own true xs :: (ds.map .dat ++ List.replicate (m - 1 - ds.length) .un)) with
  | .nx e => io0 e fun ys => .ok .non ys
  | .rt d e => io0 e fun ys => .ok d ys
  | .rn zs e => io0 e fun ys => .nw zs ys
  | .ex c x e => io0 e fun ys => .ex c x ys
  | _ => .no
section
variable {K : PySem.W.Frag} {S H : Hp}
theorem start_slots {N : List Str} {vs : List V} : start N vs = vs.map some ++ List.replicate (N.length - vs.length) none := rfl
theorem datAll : ∀ {vs : List V} {ds : List D} {i : Nat} {o : Option V} {s : Sl}, DtAll K S vs ds → (ds.map Sl.dat)[i]? = some s → (vs.map some)[i]? = some o → ∃ v d, s = .dat d ∧ o = some v ∧ Dt K S v d
  | _, _, _, _, _, .nil, h, _ => by simp at h
  | _, _, 0, _, _, .cons a t, h, h' => by
    simp only [List.map_cons, List.getElem?_cons_zero, Option.some.injEq] at h h'
    exact ⟨_, _, h.symm, h'.symm, a⟩
  | _, _, i + 1, _, _, .cons a t, h, h' => by
    simp only [List.map_cons, List.getElem?_cons_succ] at h h'
    exact datAll t h h'
theorem start_ok {N : List Str} {vs : List V} {ds : List D} (hs : Same S H) (hd : DtAll K S vs ds) : EnvOk K ⟨S, H, [], fun _ => False, fun _ => none⟩ S (start N vs) H (ds.map .dat ++ List.replicate (N.length - ds.length) .un) := by
  have hl := hd.length
  have nown : ∀ i p, ¬ Own (ds.map Sl.dat ++ List.replicate (N.length - ds.length) .un) (start N vs) i p := fun i p ⟨⟨a, xs, h⟩, _⟩ => by
    by_cases hi : i < (ds.map Sl.dat).length
    · rw [List.getElem?_append_left hi, List.getElem?_map] at h
      cases z : ds[i]? with
      | none => rw [z] at h; cases h
      | some d => rw [z] at h; cases h
    · rw [List.getElem?_append_right (by omega), List.getElem?_replicate] at h
      split at h <;> cases h
  refine ⟨?_, hs, fun b o _ h => h, Same.refl _, fun b h n => n, fun i s o h1 h2 => ?_, fun i j p _ h => absurd h (nown i p), fun q hq => absurd hq (by simp), fun q hq => absurd hq (by simp), fun b hb => hb.elim⟩
  · rw [start_slots]
    simp [hl]
  · rw [start_slots] at h2
    by_cases hi : i < (ds.map Sl.dat).length
    · rw [List.getElem?_append_left hi] at h1
      rw [List.getElem?_append_left (by simpa [hl] using hi)] at h2
      obtain ⟨v, d, e1, e2, e3⟩ := datAll hd h1 h2
      subst e1
      exact ⟨v, e2, e3⟩
    · rw [List.getElem?_append_right (by omega), List.getElem?_replicate] at h1
      split at h1
      · cases h1; trivial
      · cases h1
theorem start_io {N : List Str} {g : Addr} {us : List V} {ds xs : List D} {ws : List V} (hs : Same S H) (hg : H g = some (.lst ws)) (hS : S g = none) (hw : DtAll K S ws xs) (hd : DtAll K S us ds) :
    EnvOk K ⟨S, H, [(0, g)], fun _ => False, fun _ => none⟩ S (start N (.ref g :: us)) H (.own true xs :: (ds.map .dat ++ List.replicate (N.length - 1 - ds.length) .un)) := by
  have hl := hd.length
  have e0 : N.length - (us.length + 1) = N.length - 1 - ds.length := by omega
  have st : start N (.ref g :: us) = some (.ref g) :: (us.map some ++ List.replicate (N.length - 1 - ds.length) none) := by
    rw [start_slots, ← e0]
    rfl
  rw [st]
  have tl : ∀ i s o, (ds.map Sl.dat ++ List.replicate (N.length - 1 - ds.length) .un)[i]? = some s → (us.map some ++ List.replicate (N.length - 1 - ds.length) none)[i]? = some o → (∃ v d, s = Sl.dat d ∧ o = some v ∧ Dt K S v d) ∨ s = Sl.un := fun i s o h1 h2 => by
    by_cases hi : i < (ds.map Sl.dat).length
    · rw [List.getElem?_append_left hi] at h1
      rw [List.getElem?_append_left (by simpa [hl] using hi)] at h2
      exact .inl (datAll hd h1 h2)
    · rw [List.getElem?_append_right (by omega), List.getElem?_replicate] at h1
      split at h1
      · cases h1
        exact .inr rfl
      · cases h1
  have len : (us.map some ++ List.replicate (N.length - 1 - ds.length) (none : Option V)).length = (ds.map Sl.dat ++ List.replicate (N.length - 1 - ds.length) Sl.un).length := by simp [hl]
  have noOwn : ∀ i p, ¬ Own (.own true xs :: (ds.map Sl.dat ++ List.replicate (N.length - 1 - ds.length) .un)) (some (.ref g) :: (us.map some ++ List.replicate (N.length - 1 - ds.length) none)) (i + 1) p := fun i p ⟨⟨a, zs, h⟩, h2⟩ => by
    rw [List.getElem?_cons_succ] at h h2
    rcases tl i _ _ h h2 with ⟨_, _, z, _⟩ | z <;> cases z
  refine ⟨by rw [List.length_cons, List.length_cons, len], hs, fun b o _ h => h, Same.refl _, fun b h n => n, fun i s o h1 h2 => ?_, fun i j p hij h1 h2 => ?_, fun q hq => ?_, fun q hq => ?_, fun b hb => hb.elim⟩
  · cases i with
    | zero =>
      rw [List.getElem?_cons_zero] at h1 h2
      cases h1
      cases h2
      exact ⟨g, ws, rfl, hg, hS, hw, List.mem_cons_self⟩
    | succ i =>
      rw [List.getElem?_cons_succ] at h1 h2
      rcases tl i s o h1 h2 with ⟨v, d, e1, e2, e3⟩ | e
      · subst e1
        exact ⟨v, e2, e3⟩
      · subst e
        trivial
  · cases i with
    | succ i => exact noOwn i p h1
    | zero =>
      cases j with
      | zero => exact hij rfl
      | succ j => exact noOwn j p h2
  · have e : q = (0, g) := by simpa using hq
    subst e
    exact ⟨rfl, xs, rfl⟩
  · have e : q = (0, g) := by simpa using hq
    subst e
    exact ⟨some_ne hg, hS⟩
end

section
variable {P : Program} {w : World} {K : PySem.W.Frag} {mg : Str → Option Value} {base : Heap} {x qual : Str} {params : Arguments} {body : List Stmt} {scope : Scope} {dvs : List V} {kws : List (Str × V)} {f : Addr} {fd : FuncData}
abbrev WD (E : XK) : WX := fun cls d _ H => E cls d H
/-- a def that changes nothing, by its body -/
theorem fnP {N ps : List Str} {k : Nat} {B : Ev → Rs} (Fu : FunD K x qual params body scope dvs kws f fd) (Sc : FnScope N ps scope)
    (hb : ∀ (cdv : Value) (A : Around) (outer : List Env) (s : Shared) (H : Hp) (E : XK), A.guards = some [] → Room k (A.deeper (envOfC qual scope s.heap.objs.size f cdv)) →
      ∃ t, QSs (cxG P w K mg base N qual scope f cdv A outer s H E) (WD E) body t B) : FnG P w K mg base (k + 1) f fd ps (spP K ps.length (runP B N.length)) := by
  refine fnG_of Fu Sc (fun vs H Q E h => h.1) fun cdv A outer s H vs Q E hg hr h => ?_
  obtain ⟨t, hq⟩ := hb cdv A outer s H E hg hr
  refine ⟨t, hq.ps, ?_⟩
  obtain ⟨hl, S, ds, hS, hd, hF⟩ := h
  refine hq.sim ⟨S, H, [], fun _ => False, fun _ => none⟩ S _ H _ _ (start_ok hS hd) ?_
  have fr : ∀ {S' : Hp} {σ : L2.St} {H' : Hp} {e : Ev}, EnvOk K ⟨S, H, [], fun _ => False, fun _ => none⟩ S' σ H' e → Same S S' ∧ Same H H' ∧ Same S' H' ∧ Av S H S' := fun {S' σ H' e} E' => ⟨E'.grow, fun b o h => E'.frame b o (fun q hq => absurd hq (by simp)) h, E'.sub, E'.avoid⟩
  unfold runP at hF
  cases z : B (ds.map .dat ++ List.replicate (N.length - ds.length) .un) with
  | no => rw [z] at hF; exact hF
  | bk e => rw [z] at hF; exact hF.elim
  | ct e => rw [z] at hF; exact hF.elim
  | nx e =>
    rw [z] at hF
    intro S' σ H' _ E'
    obtain ⟨a, b, c, d⟩ := fr E'
    exact hF S' H' .non a b c d .non
  | rt d e =>
    rw [z] at hF
    intro S' σ H' v _ E' hv
    obtain ⟨a, b, c, d⟩ := fr E'
    exact hF S' H' v a b c d hv
  | rn xs e =>
    rw [z] at hF
    intro S' σ H' r _ E' N'
    obtain ⟨a, b, c, d⟩ := fr E'
    obtain ⟨vs', n1, n2⟩ := N'.at_
    exact hF S' H' r vs' a b c d N'.new n1 N'.off n2
  | ex cc y e =>
    rw [z] at hF
    intro S' σ H' cls dd _ E' xo
    obtain ⟨a, b, c, d⟩ := fr E'
    exact hF S' H' cls dd a b c d xo
/-- a def that changes the list that is its first argument -/
theorem fnI {N ps : List Str} {k : Nat} {B : Ev → Rs} (Fu : FunD K x qual params body scope dvs kws f fd) (Sc : FnScope N ps scope)
    (hb : ∀ (cdv : Value) (A : Around) (outer : List Env) (s : Shared) (H : Hp) (E : XK), A.guards = some [] → Room k (A.deeper (envOfC qual scope s.heap.objs.size f cdv)) →
      ∃ t, QSs (cxG P w K mg base N qual scope f cdv A outer s H E) (WD E) body t B) : FnG P w K mg base (k + 1) f fd ps (spI K ps.length (runI B N.length)) := by
  refine fnG_of Fu Sc (fun vs H Q E h => h.1) fun cdv A outer s H vs Q E hg hr h => ?_
  obtain ⟨t, hq⟩ := hb cdv A outer s H E hg hr
  refine ⟨t, hq.ps, ?_⟩
  obtain ⟨hl, S, g, ws, xs, us, ds, rfl, hS, hH, hSg, hw, hd, hF⟩ := h
  refine hq.sim ⟨S, H, [(0, g)], fun _ => False, fun _ => none⟩ S _ H _ _ (start_io hS hH hSg hw hd) ?_
  have fr : ∀ {S' : Hp} {σ : L2.St} {H' : Hp} {e : Ev}, EnvOk K ⟨S, H, [(0, g)], fun _ => False, fun _ => none⟩ S' σ H' e → Same S S' ∧ But g H H' ∧ Same S' H' ∧ Av S H S' := fun {S' σ H' e} E' => ⟨E'.grow, fun b o hb h => E'.frame b o (fun q hq => by
    have e : q = (0, g) := by simpa using hq
    subst e
    exact fun z => hb z.symm) h, E'.sub, E'.avoid⟩
  have at0 : ∀ {S' : Hp} {σ : L2.St} {H' : Hp} {e : Ev} {ys : List D}, EnvOk K ⟨S, H, [(0, g)], fun _ => False, fun _ => none⟩ S' σ H' e → e[(0 : Nat)]? = some (.own true ys) → ∃ ws', H' g = some (.lst ws') ∧ DtAll K S' ws' ys := fun {S' σ H' e ys} E' he => by
    obtain ⟨h1, _⟩ := E'.io (0, g) (by simp)
    obtain ⟨g', ws', h2, h3, h4, h5⟩ := own_of E' he
    rw [h1] at h2
    cases h2
    exact ⟨ws', h3, h5⟩
  have io : ∀ {e : Ev} {k : List D → Iz} {y : Iz}, io0 e k = y → y ≠ .no → ∃ ys, e[(0 : Nat)]? = some (.own true ys) ∧ y = k ys := fun {e k y} h hy => by
    unfold io0 at h
    split at h
    · rename_i ys hh
      exact ⟨ys, hh, h.symm⟩
    · exact absurd h.symm hy
  unfold runI at hF
  cases z : B (.own true xs :: (ds.map .dat ++ List.replicate (N.length - 1 - ds.length) .un)) with
  | no => rw [z] at hF; exact hF
  | bk e => rw [z] at hF; exact hF.elim
  | ct e => rw [z] at hF; exact hF.elim
  | nx e =>
    rw [z] at hF
    intro S' σ H' _ E'
    obtain ⟨a, b, c, d⟩ := fr E'
    by_cases hn : io0 e (fun ys => .ok .non ys) = .no
    · simp only [hn] at hF
    · obtain ⟨ys, h1, h2⟩ := io rfl hn
      obtain ⟨ws', h3, h4⟩ := at0 E' h1
      simp only [h2] at hF
      exact hF S' H' .non ws' a b c d h3 h4 .non
  | rt dd e =>
    rw [z] at hF
    intro S' σ H' v _ E' hv
    obtain ⟨a, b, c, d⟩ := fr E'
    by_cases hn : io0 e (fun ys => .ok dd ys) = .no
    · simp only [hn] at hF
    · obtain ⟨ys, h1, h2⟩ := io rfl hn
      obtain ⟨ws', h3, h4⟩ := at0 E' h1
      simp only [h2] at hF
      exact hF S' H' v ws' a b c d h3 h4 hv
  | rn zs e =>
    rw [z] at hF
    intro S' σ H' r _ E' N'
    obtain ⟨a, b, c, d⟩ := fr E'
    by_cases hn : io0 e (fun ys => .nw zs ys) = .no
    · simp only [hn] at hF
    · obtain ⟨ys, h1, h2⟩ := io rfl hn
      obtain ⟨ws', h3, h4⟩ := at0 E' h1
      obtain ⟨vs', n1, n2⟩ := N'.at_
      simp only [h2] at hF
      exact hF S' H' r vs' ws' a b c d h3 h4 N'.new n1 N'.off n2
  | ex cc y e =>
    rw [z] at hF
    intro S' σ H' cls dd _ E' xo
    obtain ⟨a, b, c, d⟩ := fr E'
    by_cases hn : io0 e (fun ys => .ex cc y ys) = .no
    · simp only [hn] at hF
    · obtain ⟨ys, h1, h2⟩ := io rfl hn
      obtain ⟨ws', h3, h4⟩ := at0 E' h1
      simp only [h2] at hF
      exact hF S' H' cls dd ws' a b c d h3 h4 xo
end
end DL
set_option Elab.async false
set_option linter.all false
set_option maxRecDepth 100000
set_option maxHeartbeats 4000000
/-! DL, part e: operators, subscripts, slices, built-ins, calls of defs, walks, comprehensions. -/
namespace DL
open PySem PySem.Spec PyProof.Rows L2

/-! ### operators on whole numbers -/
def fI (C : Int → Int → Bool) (g : Int → Int → D) (x y : D) : Option D := match x, y with
  | .int i, .int j => if C i j = true then some (g i j) else none
  | _, _ => none
theorem opd_I {K : PySem.W.Frag} {C : Int → Int → Prop} {Cb : Int → Int → Bool} {gv : Int → Int → V} {g : Int → Int → D} (hC : ∀ i j, Cb i j = true → C i j) (hg : ∀ i j S, Dt K S (gv i j) (g i j)) : OpD K (rI C gv) (fI Cb g) := by
  intro S H v w x y z Q hv hw h k
  cases hv with
  | int i =>
    cases hw with
    | int j =>
      have h' : (if Cb i j = true then some (g i j) else none) = some z := h
      by_cases c : Cb i j = true
      · rw [if_pos c] at h'
        cases h'
        exact ⟨i, j, rfl, rfl, hC i j c, k _ (hg i j)⟩
      · rw [if_neg c] at h'
        cases h'
    | _ => cases h
  | _ => cases h
theorem opd_I0 {K : PySem.W.Frag} {gv : Int → Int → V} {g : Int → Int → D} (hg : ∀ i j S, Dt K S (gv i j) (g i j)) : OpD K (rI0 gv) (fI (fun _ _ => true) g) := by
  intro S H v w x y z Q hv hw h k
  cases hv with
  | int i =>
    cases hw with
    | int j =>
      cases h
      exact ⟨i, j, rfl, rfl, k _ (hg i j)⟩
    | _ => cases h
  | _ => cases h
def CPowW (i j : Int) : Prop := 0 ≤ j ∧ (Builtin.Int.intBits i : Int) * j ≤ 2 ^ 27
instance (i j : Int) : Decidable (CPowW i j) := by unfold CPowW; infer_instance
instance (i j : Int) : Decidable (CMulW i j) := by unfold CMulW; infer_instance
instance (i j : Int) : Decidable (CDivW i j) := by unfold CDivW; infer_instance
abbrev fAdd : D → D → Option D := fI (fun _ _ => true) fun i j => .int (i + j)
abbrev fSub : D → D → Option D := fI (fun _ _ => true) fun i j => .int (i - j)
abbrev fMul : D → D → Option D := fI (fun i j => decide (CMulW i j)) fun i j => .int (i * j)
abbrev fDiv : D → D → Option D := fI (fun i j => decide (CDivW i j)) fun i j => .int (i / j)
abbrev fMod : D → D → Option D := fI (fun _ j => decide (0 < j)) fun i j => .int (i % j)
abbrev fPow : D → D → Option D := fI (fun i j => decide (CPowW i j)) fun i j => .int (i ^ j.toNat)
abbrev fLt : D → D → Option D := fI (fun _ _ => true) fun i j => .bl (decide (i < j))
abbrev fLe : D → D → Option D := fI (fun _ _ => true) fun i j => .bl (decide (i ≤ j))
abbrev fGt : D → D → Option D := fI (fun _ _ => true) fun i j => .bl (decide (j < i))
abbrev fGe : D → D → Option D := fI (fun _ _ => true) fun i j => .bl (decide (j ≤ i))
section
variable {K : PySem.W.Frag}
theorem od_add : OpD K (rI0 fun i j => .int (i + j)) fAdd := opd_I0 fun i j S => .int _
theorem od_sub : OpD K (rI0 fun i j => .int (i - j)) fSub := opd_I0 fun i j S => .int _
theorem od_mul : OpD K (rI CMulW fun i j => .int (i * j)) fMul := opd_I (fun i j h => of_decide_eq_true h) fun i j S => .int _
theorem od_div : OpD K (rI CDivW fun i j => .int (i / j)) fDiv := opd_I (fun i j h => of_decide_eq_true h) fun i j S => .int _
theorem od_mod : OpD K (rI (fun _ j => 0 < j) fun i j => .int (i % j)) fMod := opd_I (fun i j h => of_decide_eq_true h) fun i j S => .int _
theorem od_pow : OpD K (rI CPowW fun i j => .int (i ^ j.toNat)) fPow := opd_I (fun i j h => of_decide_eq_true h) fun i j S => .int _
theorem od_lt : OpD K (rI0 fun i j => .bl (decide (i < j))) fLt := opd_I0 fun i j S => .bl _
theorem od_le : OpD K (rI0 fun i j => .bl (decide (i ≤ j))) fLe := opd_I0 fun i j S => .bl _
theorem od_gt : OpD K (rI0 fun i j => .bl (decide (j < i))) fGt := opd_I0 fun i j S => .bl _
theorem od_ge : OpD K (rI0 fun i j => .bl (decide (j ≤ i))) fGe := opd_I0 fun i j S => .bl _
end
theorem op_powW {X : Cx} : OpR X (binaryOp .Pow) (rI CPowW fun i j => .int (i ^ j.toNat)) := opI fun _ _ _ _ _ _ _ hc q => pow_int hc.1 hc.2 q
/-! ### -n -/
def fNeg (x : D) : Option D := match x with
  | .int i => some (.int (-i))
  | _ => none
theorem ud_neg {K : PySem.W.Frag} : ∀ (H : Hp) (v : V) (x z : D) (Q : VK), Dt K H v x → fNeg x = some z → (∀ u, (∀ S, Dt K S u z) → Q u H) → (rU fun i => .int (-i)) v H Q := fun H v x z Q hv h k => by
  cases hv with
  | int i => cases h; exact ⟨i, rfl, k _ fun S => .int _⟩
  | _ => cases h
/-! ### is None -/
def isNon (x : D) : Bool := match x with
  | .non => true
  | _ => false
def fIsN (x y : D) : Option D := match y with
  | .non => some (.bl (isNon x))
  | _ => none
def fNotN (x y : D) : Option D := match y with
  | .non => some (.bl (!isNon x))
  | _ => none
theorem od_isN {K : PySem.W.Frag} : OpD K (fun x y H Q => y = .non ∧ Q (.bl (decide (x = .non))) H) fIsN := by
  intro S H v w x y z Q hv hw h k
  cases hw with
  | non =>
    cases h
    refine ⟨rfl, ?_⟩
    have e : decide (v = V.non) = isNon x := by cases hv <;> rfl
    rw [e]
    exact k _ fun S => .bl _
  | _ => cases h
theorem od_notN {K : PySem.W.Frag} : OpD K (fun x y H Q => y = .non ∧ Q (.bl (!decide (x = .non))) H) fNotN := by
  intro S H v w x y z Q hv hw h k
  cases hw with
  | non =>
    cases h
    refine ⟨rfl, ?_⟩
    have e : (!decide (v = V.non)) = !isNon x := by cases hv <;> rfl
    rw [e]
    exact k _ fun S => .bl _
  | _ => cases h

/-! ### data as the library has them; ==, != -/
mutual
def D.py : D → Option PyData
  | .non => some .none
  | .bl b => some (.bool b)
  | .int i => some (.int i)
  | .str x => some (.str x)
  | .lst xs => (D.pyAll xs).map .list
  | .fro xs => (D.pyAll xs).map .list
  | .tup xs => (D.pyAll xs).map .tuple
  | .dic _ => none
  | .ins _ _ => none
  | .exn _ _ => none
def D.pyAll : List D → Option (List PyData)
  | [] => some []
  | x :: xs => match D.py x, D.pyAll xs with
    | some d, some ds => some (d :: ds)
    | _, _ => none
end
section
variable {K : PySem.W.Frag} {H : Hp}
mutual
theorem Dt.dp : ∀ {v : V} {d : D} {e : PyData}, Dt K H v d → d.py = some e → Dp K H v e
  | _, _, _, .non, h => by rw [D.py] at h; cases h; exact .non
  | _, _, _, .bl b, h => by rw [D.py] at h; cases h; exact .bl b
  | _, _, _, .int i, h => by rw [D.py] at h; cases h; exact .int i
  | _, _, _, .str x, h => by rw [D.py] at h; cases h; exact .str x
  | _, _, _, .lst a t, h => by
    rw [D.py] at h
    obtain ⟨ds, h1, h2⟩ := Option.map_eq_some_iff.mp h
    subst h2
    exact .lst (.inl (.inl a)) (DtAll.dp t h1)
  | _, _, _, .fro a t, h => by
    rw [D.py] at h
    obtain ⟨ds, h1, h2⟩ := Option.map_eq_some_iff.mp h
    subst h2
    exact .lst a (DtAll.dp t h1)
  | _, _, _, .tup a t, h => by
    rw [D.py] at h
    obtain ⟨ds, h1, h2⟩ := Option.map_eq_some_iff.mp h
    subst h2
    exact .tup a (DtAll.dp t h1)
  | _, _, _, .dic _ _, h => by rw [D.py] at h; cases h
  | _, _, _, .ins _ _, h => by rw [D.py] at h; cases h
  | _, _, _, .exn _ _ _, h => by rw [D.py] at h; cases h
theorem DtAll.dp : ∀ {vs : List V} {ds : List D} {es : List PyData}, DtAll K H vs ds → D.pyAll ds = some es → DpAll K H vs es
  | _, _, _, .nil, h => by rw [D.pyAll] at h; cases h; exact .nil
  | _, d :: ds, _, .cons a t, h => by
    rw [D.pyAll] at h
    cases h1 : d.py with
    | none => rw [h1] at h; cases h
    | some e =>
      cases h2 : D.pyAll ds with
      | none => rw [h1, h2] at h; cases h
      | some es =>
        rw [h1, h2] at h
        cases h
        exact .cons (Dt.dp a h1) (DtAll.dp t h2)
end
end
/-- equal as Python has it -/
def eqD (x y : D) : Option Bool := match x.py, y.py with
  | some a, some b => if (SeqAt.shaped a && SeqAt.shaped b) = true then some (PyData.eqv a b) else none
  | _, _ => none
def fEq (x y : D) : Option D := (eqD x y).map .bl
def fNe (x y : D) : Option D := (eqD x y).map fun b => .bl (!b)
theorem eqD_some {x y : D} {b : Bool} (h : eqD x y = some b) : ∃ a c, x.py = some a ∧ y.py = some c ∧ SeqAt.shaped a = true ∧ SeqAt.shaped c = true ∧ PyData.eqv a c = b := by
  unfold eqD at h
  cases h1 : x.py with
  | none => rw [h1] at h; cases h
  | some a =>
    cases h2 : y.py with
    | none => rw [h1, h2] at h; cases h
    | some c =>
      rw [h1, h2] at h
      have h' : (if (SeqAt.shaped a && SeqAt.shaped c) = true then some (PyData.eqv a c) else none) = some b := h
      by_cases hs : (SeqAt.shaped a && SeqAt.shaped c) = true
      · rw [if_pos hs] at h'
        cases h'
        obtain ⟨s1, s2⟩ := Bool.and_eq_true_iff.mp hs
        exact ⟨a, c, rfl, rfl, s1, s2, rfl⟩
      · rw [if_neg hs] at h'
        cases h'
theorem od_eq {K : PySem.W.Frag} : OpD K (rEqD K) fEq := by
  intro S H v w x y z Q hv hw h k
  obtain ⟨b, h1, h2⟩ := Option.map_eq_some_iff.mp h
  obtain ⟨a, c, e1, e2, s1, s2, e3⟩ := eqD_some h1
  subst h2 e3
  exact ⟨a, c, hv.dp e1, hw.dp e2, s1, s2, k _ fun S => .bl _⟩
theorem od_ne {K : PySem.W.Frag} : OpD K (rNeD K) fNe := by
  intro S H v w x y z Q hv hw h k
  obtain ⟨b, h1, h2⟩ := Option.map_eq_some_iff.mp h
  obtain ⟨a, c, e1, e2, s1, s2, e3⟩ := eqD_some h1
  subst h2 e3
  exact ⟨a, c, hv.dp e1, hw.dp e2, s1, s2, k _ fun S => .bl _⟩

/-! ### subscripts -/
def fIx (x y : D) : Option D := match x, y with
  | .lst ds, .int i => atI ds i
  | .fro ds, .int i => atI ds i
  | _, _ => none
def fIxT (x y : D) : Option D := match x, y with
  | .tup ds, .int i => atI ds i
  | _, _ => none
def fIxS (x y : D) : Option D := match x, y with
  | .str z, .int i => if z.length ≤ 1000000 then (atI z.cps.toList i).map fun c => .str ⟨#[c]⟩ else none
  | _, _ => none
/-- an item that is flat -/
def fIxF (x y : D) : Option D := match fIx x y with
  | some d => if isSc d = true then some d else none
  | none => none
section
variable {K : PySem.W.Frag}
theorem atI_all {H : Hp} {vs : List V} {ds : List D} {i : Int} {d : D} (h : DtAll K H vs ds) (e : atI ds i = some d) : ∃ v, atI vs i = some v ∧ Dt K H v d := by
  unfold atI at e ⊢
  rw [h.length]
  cases q : ixN ds.length i with
  | none => rw [q] at e; cases e
  | some j =>
    rw [q] at e
    exact h.get e
theorem op_ixL : OpP K (rIxL K) fIx := by
  intro S H v w x y z Q s hv hw h k
  cases hw with
  | int i =>
    cases hv with
    | lst a t =>
      obtain ⟨u, h1, h2⟩ := atI_all t (show atI _ i = some z from h)
      exact ⟨_, _, i, u, rfl, rfl, .inl (.inl (s _ _ a)), h1, k u h2⟩
    | fro a t =>
      obtain ⟨u, h1, h2⟩ := atI_all t (show atI _ i = some z from h)
      exact ⟨_, _, i, u, rfl, rfl, s.seq a, h1, k u h2⟩
    | _ => cases h
  | _ => cases hv <;> cases h
theorem op_ixT : OpP K (rIxT K) fIxT := by
  intro S H v w x y z Q s hv hw h k
  cases hw with
  | int i =>
    cases hv with
    | tup a t =>
      obtain ⟨u, h1, h2⟩ := atI_all t (show atI _ i = some z from h)
      exact ⟨_, _, i, u, rfl, rfl, same_t s a, h1, k u h2⟩
    | _ => cases h
  | _ => cases hv <;> cases h
theorem od_ixS : OpD K rIxS fIxS := by
  intro S H v w x y z Q hv hw h k
  cases hw with
  | int i =>
    cases hv with
    | str x =>
      have h' : (if x.length ≤ 1000000 then (atI x.cps.toList i).map fun c => D.str ⟨#[c]⟩ else none) = some z := h
      by_cases hz : x.length ≤ 1000000
      · rw [if_pos hz] at h'
        obtain ⟨c, h1, h2⟩ := Option.map_eq_some_iff.mp h'
        subst h2
        exact ⟨x, i, c, rfl, rfl, size_ok hz, h1, k _ fun S => .str _⟩
      · rw [if_neg hz] at h'
        cases h'
    | _ => cases h
  | _ => cases hv <;> cases h
theorem od_ixF : OpD K (rIxL K) fIxF := by
  intro S H v w x y z Q hv hw h k
  unfold fIxF at h
  cases q : fIx x y with
  | none => rw [q] at h; cases h
  | some d =>
    rw [q] at h
    have h' : (if isSc d = true then some d else none) = some z := h
    by_cases hs : isSc d = true
    · rw [if_pos hs] at h'
      obtain rfl : d = z := Option.some.inj h'
      exact op_ixL H H v w x y d Q (Same.refl _) hv hw q fun u hu => k u fun S => sc_any hu hs S
    · rw [if_neg hs] at h'
      cases h'
end
section
variable {X : Cx} {W : WX} {p : Bool}
theorem qe_ix {r : R2} {f : D → D → Option D} {a b : Expr} {ta tb : TE} {da db : Ev → Rz D} {pos : Pos} (ho : IxR X r) (hs : OpP X.K r f) (ha : QE X W p a ta da) (hb : QE X W p b tb db) (hx : PlainIx b) :
    QE X W p (.Subscript a b pos) (tOp r ta tb) (dOp f da db) := ⟨pe_ix ho ha.pe hb.pe hx, fun F => sim_op hs (ha.sim F) (hb.sim F)⟩
theorem qe_ixR {r : R2} {f : D → D → Option D} {a b : Expr} {ta tb : TE} {da db : Ev → Rz D} {pos : Pos} (ho : IxR X r) (hs : OpD X.K r f) (ha : QR X W a ta da) (hb : QR X W b tb db) [u : Still da] [u' : Still db] (hx : PlainIx b) :
    QE X W p (.Subscript a b pos) (tOp r ta tb) (dOp f da db) := ⟨pe_ix ho ha.pe hb.pe hx, fun F => sim_opR hs (ha.sim F) (hb.sim F) u.at_ u'.at_⟩

/-! ### xs[lo:hi] -/
def dNoP (e : Ev) : Rz (Option Int) := .ok none e
def dPart (a : Ev → Rz D) (e : Ev) : Rz (Option Int) := (a e).bind fun x e1 => match x with
  | .int i => .ok (some i) e1
  | _ => .no
def SimO (K : PySem.W.Frag) (F : Fm) (W : WX) (p : Bool) (to : TO) (d : Ev → Rz (Option Int)) : Prop := ∀ S σ H env Q, EnvOk K F S σ H env →
  (d env).holds (fun o e => ∀ S' H', Same S S' → (p = true → Gr S H S' H') → EnvOk K F S' σ H' e → Q o H') (ExW K F W S σ) → to σ H Q
structure QO (X : Cx) (W : WX) (p : Bool) (e : Option Expr) (to : TO) (d : Ev → Rz (Option Int)) : Prop where
  po : PO X e to
  sim : ∀ F, SimO X.K F W p to d
theorem qo_none : QO X W p none tNoPart dNoP := ⟨po_none, fun F S σ H env Q E q => q S H (Same.refl _) (fun _ => Gr.refl _ _) E⟩
theorem qo_some {e : Expr} {te : TE} {de : Ev → Rz D} (h : QE X W p e te de) : QO X W p (some e) (tPart te) (dPart de) :=
  ⟨po_some h.pe, fun F S σ H env Q E q => h.sim F S σ H env _ E (Rz.imp (Rz.bind_holds q) (fun x e1 q1 S1 H1 v s1 t1 E1 d1 => by
    cases d1 with
    | int i => exact ⟨i, rfl, q1 S1 H1 s1 t1 E1⟩
    | _ => exact q1.elim) fun _ _ _ z => z)⟩
/-- the items of xs[lo:hi] -/
def cutD {α : Type} (xs : List α) (lo hi : Option Int) : List α := (xs.drop (HT.sIx xs.length 0 lo)).take (HT.sIx xs.length xs.length hi - HT.sIx xs.length 0 lo)
theorem cut_all {K : PySem.W.Frag} {H : Hp} {vs : List V} {ds : List D} (h : DtAll K H vs ds) (lo hi : Option Int) : DtAll K H (cutV vs lo hi) (cutD ds lo hi) := by
  unfold cutV cutD
  rw [h.length]
  exact (h.drop _).take _
def cutL (x : D) (lo hi : Option Int) (e : Ev) : Rz (List D) := match x with
  | .lst ds => .ok (cutD ds lo hi) e
  | .fro ds => .ok (cutD ds lo hi) e
  | _ => .no
def dSlL (a : Ev → Rz D) (l u : Ev → Rz (Option Int)) (e : Ev) : Rz (List D) := (a e).bind fun x e1 => (l e1).bind fun lo e2 => (u e2).bind fun hi e3 => cutL x lo hi e3
theorem qn_slice {a : Expr} {lo hi : Option Expr} {ta : TE} {tl th : TO} {da : Ev → Rz D} {dl dh : Ev → Rz (Option Int)} {p2 pos : Pos} (ha : QE X W p a ta da) (hl : QO X W p lo tl dl) (hh : QO X W p hi th dh) :
    QN X W p (.Subscript a (.Slice lo hi none p2) pos) (tSl (rSlL X.K) ta tl th) (dSlL da dl dh) := by
  refine ⟨pe_slice sl_list ha.pe hl.po hh.po, fun F S σ H env Q E q => ?_⟩
  refine ha.sim F S σ H env _ E (Rz.imp (Rz.bind_holds q) (fun x e1 q1 S1 H1 v s1 t1 E1 d1 => ?_) fun _ _ _ z => z)
  refine hl.sim F S1 σ H1 e1 _ E1 (Rz.imp (Rz.bind_holds q1) (fun lo e2 q2 S2 H2 s2 t2 E2 => ?_) fun _ _ _ z => z.mono s1)
  refine hh.sim F S2 σ H2 e2 _ E2 (Rz.imp (Rz.bind_holds q2) (fun hi e3 q3 S3 H3 s3 t3 E3 => ?_) fun _ _ _ z => z.mono (s1.trans s2))
  have d3 := d1.mono (s2.trans s3)
  have fin : ∀ {g : Addr} {vs : List V} {ds : List D}, SqL X.K H3 g vs → DtAll X.K S3 vs ds → v = .ref g → (Rz.ok (cutD ds lo hi) e3).holds (fun xs e => ∀ S' H' q, Same S S' → (p = true → Gr S H S' H' ∧ H q = none) → EnvOk X.K F S' σ H' e → NewL X.K F S' H' σ e q xs → Q (.ref q) H') (ExW X.K F W S σ) →
      rSlL X.K v lo hi H3 Q := fun {g vs ds} h1 h2 ev q => by
    refine ⟨g, vs, ev, h1, fun r hr => ?_⟩
    obtain ⟨E4, N⟩ := E3.layN hr (cut_all h2 lo hi)
    have gr : p = true → Gr S H S3 H3 := tr2 (tr2 t1 t2) t3
    exact q S3 _ r ((s1.trans s2).trans s3) (fun z => ⟨(gr z).trans ⟨same_upd hr, fun _ _ n => n⟩, (gr z).none hr⟩) E4 N
  cases d3 with
  | lst a t => exact fin (.inl (.inl (E3.sub _ _ a))) t rfl q3
  | fro a t => exact fin (E3.sub.seq a) t rfl q3
  | _ => exact q3.elim

/-! ### built-ins whose answer is flat -/
def BiD (K : PySem.W.Frag) (r : List V → Hp → VK → Prop) (f : List D → Option D) : Prop := ∀ (H : Hp) (vs : List V) (ds : List D) (z : D) (Q : VK), DtAll K H vs ds → f ds = some z → (∀ u, (∀ S, Dt K S u z) → Q u H) → r vs H Q
def dBi (f : List D → Option D) (a : Ev → Rz (List D)) (e : Ev) : Rz D := (a e).bind fun ds e1 => oz (f ds) e1
instance still_bi {f : List D → Option D} {a : Ev → Rz (List D)} [ha : StillA a] : Still (dBi f a) := ⟨fun env d e' h => by
  obtain ⟨x, e1, h1, h2⟩ := Rz.bind_ok h
  rw [(oz_ok h2).2, ha.at_ _ _ _ h1]⟩
theorem sim_bi {K : PySem.W.Frag} {F : Fm} {r : List V → Hp → VK → Prop} {f : List D → Option D} {t : TA} {da : Ev → Rz (List D)} (hb : BiD K r f) (ha : SimA K F W p t da) : SimE K F W p (tCB r t) (dBi f da) := by
  intro S σ H env Q E q
  refine ha S σ H env _ E (Rz.imp (Rz.bind_holds q) (fun ds e1 q1 S1 H1 vs s1 t1 E1 d1 => ?_) fun _ _ _ z => z)
  obtain ⟨z, ez, k⟩ := oz_holds q1
  exact hb H1 vs ds z Q (d1.mono E1.sub) ez fun u hu => k S1 H1 u s1 t1 E1 (hu S1)
theorem sim_biR {K : PySem.W.Frag} {F : Fm} {r : List V → Hp → VK → Prop} {f : List D → Option D} {t : TA} {da : Ev → Rz (List D)} (hb : BiD K r f) (ha : SimAR K F W t da) (u : ∀ env d e', da env = .ok d e' → e' = env) : SimE K F W p (tCB r t) (dBi f da) := by
  intro S σ H env Q E q
  have q' := Rz.bind_holds q
  refine ha S σ H env _ E ?_
  cases z : da env with
  | no => rw [z] at q'; exact q'
  | ex c x e => rw [z] at q'; exact q'
  | ok ds e1 =>
    rw [z] at q'
    have ee := u _ _ _ z
    subst ee
    intro S1 H1 vs s1 t1 E1 d1
    obtain ⟨z, ez, k⟩ := oz_holds (show (oz (f ds) e1).holds _ _ from q')
    exact hb H1 vs ds z Q d1 ez fun u hu => k S1 H1 u s1 (fun _ => t1) E1 (hu S1)
theorem qe_bi {x : Str} {id : String} {pp pos : Pos} {e : Expr} {es : List Expr} {r : List V → Hp → VK → Prop} {f : List D → Option D} {t : TA} {da : Ev → Rz (List D)} (hb : BiD X.K r f) (ha : QA X W p (e :: es) t da)
    (hp : PE X (.Call (.Name x pp) (e :: es) [] pos) (tCB r t)) : QE X W p (.Call (.Name x pp) (e :: es) [] pos) (tCB r t) (dBi f da) := ⟨hp, fun F => sim_bi hb (ha.sim F)⟩
theorem qe_biR {x : Str} {pp pos : Pos} {e : Expr} {es : List Expr} {r : List V → Hp → VK → Prop} {f : List D → Option D} {t : TA} {da : Ev → Rz (List D)} (hb : BiD X.K r f) (ha : QAR X W (e :: es) t da) [u : StillA da]
    (hp : PE X (.Call (.Name x pp) (e :: es) [] pos) (tCB r t)) : QE X W p (.Call (.Name x pp) (e :: es) [] pos) (tCB r t) (dBi f da) := ⟨hp, fun F => sim_biR hb (ha.sim F) u.at_⟩
end
/-- len -/
def bLen (ds : List D) : Option D := match ds with
  | [.lst xs] => some (.int xs.length)
  | [.fro xs] => some (.int xs.length)
  | [.tup xs] => some (.int xs.length)
  | [.str x] => if x.length ≤ 1000000 then some (.int x.length) else none
  | _ => none
def rLenA (K : PySem.W.Frag) : List V → Hp → VK → Prop := fun xs H Q => (∃ p ys, xs = [.ref p] ∧ (SqL K H p ys ∨ SqT K H p ys) ∧ Q (.int ys.length) H) ∨ (∃ z, xs = [.str z] ∧ z.length ≤ sizeLine ∧ Q (.int z.length) H)
theorem call_lenA {X : Cx} : CallR X (.builtin "len") (rLenA X.K) := CallR.or call_len_seq call_len_str
theorem bd_len {K : PySem.W.Frag} : BiD K (rLenA K) bLen := by
  intro H vs ds z Q hd h k
  cases hd with
  | nil => cases h
  | cons a t =>
    cases t with
    | cons b t => cases a <;> cases h
    | nil =>
      cases a with
      | lst a b =>
        cases h
        exact .inl ⟨_, _, rfl, .inl (.inl (.inl a)), by rw [b.length]; exact k _ fun S => .int _⟩
      | fro a b =>
        cases h
        exact .inl ⟨_, _, rfl, .inl a, by rw [b.length]; exact k _ fun S => .int _⟩
      | tup a b =>
        cases h
        exact .inl ⟨_, _, rfl, .inr a, by rw [b.length]; exact k _ fun S => .int _⟩
      | str x =>
        have h' : (if x.length ≤ 1000000 then some (D.int x.length) else none) = some z := h
        by_cases hz : x.length ≤ 1000000
        · rw [if_pos hz] at h'
          cases h'
          exact .inr ⟨x, rfl, size_ok hz, k _ fun S => .int _⟩
        · rw [if_neg hz] at h'
          cases h'
      | _ => cases h
/-- whole numbers out of data -/
def intsOf : List D → Option (List Int)
  | [] => some []
  | .int i :: r => (intsOf r).map (i :: ·)
  | _ :: _ => none
theorem intsOf_map : ∀ ns : List Int, intsOf (ns.map .int) = some ns
  | [] => rfl
  | n :: r => by rw [List.map_cons, intsOf, intsOf_map r]; rfl
theorem intsOf_some : ∀ {ds : List D} {ns : List Int}, intsOf ds = some ns → ds = ns.map .int
  | [], _, h => by cases h; rfl
  | d :: r, ns, h => by
    cases d with
    | int i =>
      rw [intsOf] at h
      obtain ⟨m, h1, h2⟩ := Option.map_eq_some_iff.mp h
      subst h2
      rw [intsOf_some h1]
      rfl
    | _ => cases h
def bSum (ds : List D) : Option D := match ds with
  | [.lst xs] => (intsOf xs).map fun ns => .int ns.sum
  | _ => none
theorem bd_sum {K : PySem.W.Frag} : BiD K (rSum K) bSum := by
  intro H vs ds z Q hd h k
  cases hd with
  | nil => cases h
  | cons a t =>
    cases t with
    | cons b t => cases a <;> cases h
    | nil =>
      cases a with
      | lst a b =>
        obtain ⟨ns, h1, h2⟩ := Option.map_eq_some_iff.mp (show (intsOf _).map (fun ns => D.int ns.sum) = some z from h)
        subst h2
        have e := intsOf_some h1
        subst e
        have e2 := b.ints_eq
        subst e2
        exact ⟨_, ns, rfl, .inl (.inl a), k _ fun S => .int _⟩
      | _ => cases h
def bMax2 (ds : List D) : Option D := match ds with
  | [.int i, .int j] => some (.int (if j > i then j else i))
  | _ => none
theorem bd_max2 {K : PySem.W.Frag} : BiD K (fun xs H Q => ∃ i j, xs = [.int i, .int j] ∧ Q (.int (if j > i then j else i)) H) bMax2 := by
  intro H vs ds z Q hd h k
  cases hd with
  | nil => cases h
  | cons a t =>
    cases t with
    | nil => cases a <;> cases h
    | cons b t =>
      cases t with
      | cons c t => cases a <;> cases b <;> cases h
      | nil =>
        cases a with
        | int i =>
          cases b with
          | int j => cases h; exact ⟨i, j, rfl, k _ fun S => .int _⟩
          | _ => cases h
        | _ => cases b <;> cases h
def bMin2 (ds : List D) : Option D := match ds with
  | [.int i, .int j] => some (.int (if j < i then j else i))
  | _ => none
theorem bd_min2 {K : PySem.W.Frag} : BiD K (fun xs H Q => ∃ i j, xs = [.int i, .int j] ∧ Q (.int (if j < i then j else i)) H) bMin2 := by
  intro H vs ds z Q hd h k
  cases hd with
  | nil => cases h
  | cons a t =>
    cases t with
    | nil => cases a <;> cases h
    | cons b t =>
      cases t with
      | cons c t => cases a <;> cases b <;> cases h
      | nil =>
        cases a with
        | int i =>
          cases b with
          | int j => cases h; exact ⟨i, j, rfl, k _ fun S => .int _⟩
          | _ => cases h
        | _ => cases b <;> cases h
def bInt (ds : List D) : Option D := match ds with
  | [.int i] => some (.int i)
  | [.bl b] => some (.int (if b then 1 else 0))
  | _ => none
theorem bd_int {K : PySem.W.Frag} : BiD K (fun xs H Q => (∃ i, xs = [.int i] ∧ Q (.int i) H) ∨ ∃ k, xs = [.bl k] ∧ Q (.int (if k then 1 else 0)) H) bInt := by
  intro H vs ds z Q hd h k
  cases hd with
  | nil => cases h
  | cons a t =>
    cases t with
    | cons b t => cases a <;> cases h
    | nil =>
      cases a with
      | int i => cases h; exact .inl ⟨i, rfl, k _ fun S => .int _⟩
      | bl b => cases h; exact .inr ⟨b, rfl, k _ fun S => .int _⟩
      | _ => cases h
/-! ### n.bit_length() -/
def fBits (x : D) : Option D := match x with
  | .int i => some (.int (Builtin.Int.intBits i : Nat))
  | _ => none
theorem qe_bits {X : Cx} {W : WX} {p : Bool} {o : Expr} {to : TE} {d : Ev → Rz D} {apos pos : Pos} (ho : QE X W p o to d) (hp : PE X (.Call (.Attribute o "bit_length" apos) [] [] pos) (tBits to)) : QE X W p (.Call (.Attribute o "bit_length" apos) [] [] pos) (tBits to) (dUn fBits d) := by
  refine ⟨hp, fun F S σ H env Q E q => ho.sim F S σ H env _ E (Rz.imp (Rz.bind_holds q) (fun x e1 q1 S1 H1 v s1 t1 E1 d1 => ?_) fun _ _ _ z => z)⟩
  obtain ⟨z, ez, k⟩ := oz_holds q1
  cases d1 with
  | int i => cases ez; exact ⟨i, rfl, k S1 H1 _ s1 t1 E1 (.int _)⟩
  | _ => cases ez
end DL
set_option Elab.async false
set_option linter.all false
set_option maxRecDepth 100000
set_option maxHeartbeats 4000000
/-! DL, part f: calls of defs by name, walks, comprehensions, isinstance, list(..), + and * of lists, two stores at once. -/
namespace DL
open PySem PySem.Spec PyProof.Rows L2

/-! ### a def by its name -/
structure Def (P : Program) (w : World) (K : PySem.W.Frag) (mg : Str → Option Value) (base : Heap) (k : Nat) (x : Str) (ps : List Str) (sp : Sp) : Prop where
  ex : ∃ f fd, FnG P w K mg base k f fd ps sp ∧ mg x = some (.ref f) ∧ PySem.W.keepIn K (.ref f) = true ∧ L2.Binds K fd ps []
theorem Def.mono {P : Program} {w : World} {K : PySem.W.Frag} {mg : Str → Option Value} {base : Heap} {j k : Nat} {x : Str} {ps : List Str} {sp : Sp} (D : Def P w K mg base j x ps sp) (h : j ≤ k) : Def P w K mg base k x ps sp :=
  let ⟨f, fd, a, b, c, d⟩ := D.ex
  ⟨f, fd, a.mono h, b, c, d⟩
section
variable {X : Cx} {W : WX} {p : Bool} {k n : Nat} {x : Str} {ps : List Str} {pp pos : Pos} {e : Expr} {es : List Expr} {t : TA} {da : Ev → Rz (List D)} {F : List D → Fz} {FI : List D → List D → Iz}
theorem pe_def {sp : Sp} (Df : Def X.prog X.w X.K X.mg X.base k x ps sp) (hgd : X.A.guards = some []) (hr : Room k X.A) (tk : Takes X W) (ha : PA X (e :: es) t) (hg : Gl X x := by rfl)
    (hdb : (x == ("__debug__" : Str)) = false := by decide) (he : starEach (e :: es) X.env = (false, eval e X.env) :: starEach es X.env := by rfl)
    (hpl : (backTo pos (starEach es X.env)).any (·.1) = false := by rfl) : PE X (.Call (.Name x pp) (e :: es) [] pos) (tCalG sp [] W t) := by
  obtain ⟨f, fd, F, hm, hk, hb⟩ := Df.ex
  exact pe_calG F hgd hr tk hg hm hk hb .nil ha hdb he hpl
theorem pe_def0 {sp : Sp} (Df : Def X.prog X.w X.K X.mg X.base k x ps sp) (hgd : X.A.guards = some []) (hr : Room k X.A) (tk : Takes X W) (hg : Gl X x := by rfl)
    (hdb : (x == ("__debug__" : Str)) = false := by decide) : PE X (.Call (.Name x pp) [] [] pos) (tCalG sp [] W tNil) := by
  obtain ⟨f, fd, F, hm, hk, hb⟩ := Df.ex
  exact pe_calG0 F hgd hr tk hg hm hk hb .nil hdb
theorem qe_call (ha : QA X W p (e :: es) t da) [Len da n] (hp : PE X (.Call (.Name x pp) (e :: es) [] pos) (tCalG (spP X.K n F) [] W t)) : QE X W p (.Call (.Name x pp) (e :: es) [] pos) (tCalG (spP X.K n F) [] W t) (dCall F da) := ⟨hp, fun Fr => sim_call (ha.sim Fr)⟩
theorem qn_call (ha : QA X W p (e :: es) t da) [Len da n] (hp : PE X (.Call (.Name x pp) (e :: es) [] pos) (tCalG (spP X.K n F) [] W t)) : QN X W p (.Call (.Name x pp) (e :: es) [] pos) (tCalG (spP X.K n F) [] W t) (dCallN F da) := ⟨hp, fun Fr => sim_callN (ha.sim Fr)⟩
theorem qe_callR (ha : QAR X W (e :: es) t da) [StillA da] [Len da n] (hp : PE X (.Call (.Name x pp) (e :: es) [] pos) (tCalG (spP X.K n F) [] W t)) : QE X W p (.Call (.Name x pp) (e :: es) [] pos) (tCalG (spP X.K n F) [] W t) (dCallR F da) := ⟨hp, fun Fr => sim_callR (ha.sim Fr)⟩
theorem qn_callR (ha : QAR X W (e :: es) t da) [StillA da] [Len da n] (hp : PE X (.Call (.Name x pp) (e :: es) [] pos) (tCalG (spP X.K n F) [] W t)) : QN X W p (.Call (.Name x pp) (e :: es) [] pos) (tCalG (spP X.K n F) [] W t) (dCallRN F da) := ⟨hp, fun Fr => sim_callRN (ha.sim Fr)⟩
theorem qe_call0 (hp : PE X (.Call (.Name x pp) [] [] pos) (tCalG (spP X.K 0 F) [] W tNil)) : QE X W p (.Call (.Name x pp) [] [] pos) (tCalG (spP X.K 0 F) [] W tNil) (dCall F dNil) := ⟨hp, fun Fr => sim_call ((qa_nil (X := X)).sim Fr)⟩
/-- the first argument is a list of our own, which is changed -/
theorem qe_callI (i : Nat) {a : Expr} (ha : QA X W p es t da) [Len da n] (hp : PE X (.Call (.Name x pp) (a :: es) [] pos) (tCalG (spI X.K (n + 1) FI) [] W (tCons (tVar i) t))) :
    QE X W false (.Call (.Name x pp) (a :: es) [] pos) (tCalG (spI X.K (n + 1) FI) [] W (tCons (tVar i) t)) (dCallI i FI da) := ⟨hp, fun Fr => sim_callI (ha.sim Fr)⟩
theorem qn_callI (i : Nat) {a : Expr} (ha : QA X W p es t da) [Len da n] (hp : PE X (.Call (.Name x pp) (a :: es) [] pos) (tCalG (spI X.K (n + 1) FI) [] W (tCons (tVar i) t))) :
    QN X W false (.Call (.Name x pp) (a :: es) [] pos) (tCalG (spI X.K (n + 1) FI) [] W (tCons (tVar i) t)) (dCallIN i FI da) := ⟨hp, fun Fr => sim_callIN (ha.sim Fr)⟩
theorem qe_callT {a : Expr} {te : TE} {dn : Ev → Rz (List D)} (h0 : QN X W p a te dn) (ha : QA X W true es t da) [Len da n] [StillA da] (hp : PE X (.Call (.Name x pp) (a :: es) [] pos) (tCalG (spI X.K (n + 1) FI) [] W (tCons te t))) :
    QE X W false (.Call (.Name x pp) (a :: es) [] pos) (tCalG (spI X.K (n + 1) FI) [] W (tCons te t)) (dCallT FI dn da) := ⟨hp, fun Fr => sim_callT (h0.sim Fr) (ha.sim Fr)⟩

/-! ### what is walked -/
def itemsD (x : D) (e : Ev) : Rz (List D) := match x with
  | .lst ds => .ok ds e
  | .fro ds => .ok ds e
  | _ => .no
def dItems (a : Ev → Rz D) (e : Ev) : Rz (List D) := (a e).bind itemsD
theorem iter_list {K : PySem.W.Frag} {S : Hp} {a : Addr} {vs : List V} {ds : List D} (h : ∀ H, Same S H → SqL K H a vs) (hd : DtAll K S vs ds) : IterOk K S (Itl K a) ds := by
  intro i S' H' s u
  have q := h H' (s.trans u)
  refine ⟨fun d hi => ?_, fun hi => ⟨vs, q, by rw [hd.length]; exact hi⟩⟩
  obtain ⟨v, h1, h2⟩ := hd.get hi
  refine ⟨⟨vs, v, q, h1⟩, fun x H'' y => ?_⟩
  obtain ⟨e1, e2⟩ := y
  subst e1
  have e3 : v = x := Option.some.inj (h1.symm.trans (e2 vs q))
  subst e3
  exact ⟨Same.refl _, S', Same.refl _, u, fun _ _ n => n, h2.mono s⟩
theorem qi_list {tg l : Expr} {tl : TE} {dl : Ev → Rz D} (h : QE X W p l tl dl) (hp : PI X tg l (iList X.K tl)) : QI X W p tg l (iList X.K tl) (dItems dl) := by
  refine ⟨hp, fun F S σ H env R E q => h.sim F S σ H env _ E (Rz.imp (Rz.bind_holds q) (fun x e1 q1 S1 H1 v s1 t1 E1 d1 => ?_) fun _ _ _ z => z)⟩
  cases d1 with
  | lst a t => exact ⟨_, rfl, ⟨_, .inl (.inl (E1.sub _ _ a))⟩, q1 S1 H1 _ s1 t1 E1 (iter_list (fun H2 s2 => .inl (.inl (s2 _ _ a))) t)⟩
  | fro a t => exact ⟨_, rfl, ⟨_, E1.sub.seq a⟩, q1 S1 H1 _ s1 t1 E1 (iter_list (fun H2 s2 => s2.seq a) t)⟩
  | _ => exact q1.elim
def itemsT (x : D) (e : Ev) : Rz (List D) := match x with
  | .tup ds => .ok ds e
  | _ => .no
def dItemsT (a : Ev → Rz D) (e : Ev) : Rz (List D) := (a e).bind itemsT
theorem iter_tup {K : PySem.W.Frag} {S : Hp} {a : Addr} {vs : List V} {ds : List D} (h : ∀ H, Same S H → SqT K H a vs) (hd : DtAll K S vs ds) : IterOk K S (Itt K a) ds := by
  intro i S' H' s u
  have q := h H' (s.trans u)
  refine ⟨fun d hi => ?_, fun hi => ⟨vs, q, by rw [hd.length]; exact hi⟩⟩
  obtain ⟨v, h1, h2⟩ := hd.get hi
  refine ⟨⟨vs, v, q, h1⟩, fun x H'' y => ?_⟩
  obtain ⟨e1, e2⟩ := y
  subst e1
  have e3 : v = x := Option.some.inj (h1.symm.trans (e2 vs q))
  subst e3
  exact ⟨Same.refl _, S', Same.refl _, u, fun _ _ n => n, h2.mono s⟩
theorem qi_tup {tg l : Expr} {tl : TE} {dl : Ev → Rz D} (h : QE X W p l tl dl) (hp : PI X tg l (iTup X.K tl)) : QI X W p tg l (iTup X.K tl) (dItemsT dl) := by
  refine ⟨hp, fun F S σ H env R E q => h.sim F S σ H env _ E (Rz.imp (Rz.bind_holds q) (fun x e1 q1 S1 H1 v s1 t1 E1 d1 => ?_) fun _ _ _ z => z)⟩
  cases d1 with
  | tup a t => exact ⟨_, rfl, ⟨_, same_t E1.sub a⟩, q1 S1 H1 _ s1 t1 E1 (iter_tup (fun H2 s2 => same_t s2 a) t)⟩
  | _ => exact q1.elim
/-- lo, lo + 1, .., n of them -/
def rngD (lo : Int) (n : Nat) : List D := (List.range n).map fun (i : Nat) => D.int (lo + (i : Int))
theorem iter_rng {K : PySem.W.Frag} {S : Hp} {lo : Int} {n : Nat} : IterOk K S (Itr lo n) (rngD lo n) := by
  intro i S' H' s u
  refine ⟨fun d hi => ?_, fun hi => by show n ≤ i; simpa [rngD] using hi⟩
  unfold rngD at hi
  rw [List.getElem?_map] at hi
  obtain ⟨j, h1, h2⟩ := Option.map_eq_some_iff.mp hi
  obtain ⟨h3, h4⟩ := List.getElem?_eq_some_iff.mp h1
  simp only [List.length_range] at h3
  simp only [List.getElem_range] at h4
  subst h4 h2
  refine ⟨h3, fun x H'' y => ?_⟩
  obtain ⟨e1, e2⟩ := y
  subst e1 e2
  exact ⟨Same.refl _, S', Same.refl _, u, fun _ _ n => n, .int _⟩
def rng1D (ds : List D) (e : Ev) : Rz (List D) := match ds with
  | [.int j] => if -1000000 ≤ j ∧ j ≤ 1000000 then .ok (rngD 0 j.toNat) e else .no
  | _ => .no
def rng2D (ds : List D) (e : Ev) : Rz (List D) := match ds with
  | [.int i, .int j] => if -1000000 ≤ i ∧ i ≤ 1000000 ∧ -1000000 ≤ j ∧ j ≤ 1000000 then .ok (rngD i (j - i).toNat) e else .no
  | _ => .no
def dRng1 (a : Ev → Rz (List D)) (e : Ev) : Rz (List D) := (a e).bind rng1D
def dRng2 (a : Ev → Rz (List D)) (e : Ev) : Rz (List D) := (a e).bind rng2D
theorem qi_rng1 {tg l : Expr} {ta : TA} {a : Expr} (h : QA X W p [a] ta da) (hp : PI X tg l (iRng1 ta)) : QI X W p tg l (iRng1 ta) (dRng1 da) := by
  refine ⟨hp, fun F S σ H env R E q => h.sim F S σ H env _ E (Rz.imp (Rz.bind_holds q) (fun ds e1 q1 S1 H1 vs s1 t1 E1 d1 => ?_) fun _ _ _ z => z)⟩
  cases d1 with
  | nil => exact q1.elim
  | cons b t =>
    cases t with
    | cons c t => cases b <;> exact q1.elim
    | nil =>
      cases b with
      | int j =>
        have q2 : (if -1000000 ≤ j ∧ j ≤ 1000000 then Rz.ok (rngD 0 j.toNat) e1 else .no).holds _ _ := q1
        by_cases hj : -1000000 ≤ j ∧ j ≤ 1000000
        · rw [if_pos hj] at q2
          exact ⟨j, rfl, by omega, by omega, q2 S1 H1 _ s1 t1 E1 iter_rng⟩
        · rw [if_neg hj] at q2
          exact q2.elim
      | _ => exact q1.elim
theorem qi_rng2 {tg l : Expr} {ta : TA} {a b : Expr} (h : QA X W p [a, b] ta da) (hp : PI X tg l (iRng2 ta)) : QI X W p tg l (iRng2 ta) (dRng2 da) := by
  refine ⟨hp, fun F S σ H env R E q => h.sim F S σ H env _ E (Rz.imp (Rz.bind_holds q) (fun ds e1 q1 S1 H1 vs s1 t1 E1 d1 => ?_) fun _ _ _ z => z)⟩
  cases d1 with
  | nil => exact q1.elim
  | cons b t =>
    cases t with
    | nil => cases b <;> exact q1.elim
    | cons c t =>
      cases t with
      | cons d t => cases b <;> cases c <;> exact q1.elim
      | nil =>
        cases b with
        | int i =>
          cases c with
          | int j =>
            have q2 : (if -1000000 ≤ i ∧ i ≤ 1000000 ∧ -1000000 ≤ j ∧ j ≤ 1000000 then Rz.ok (rngD i (j - i).toNat) e1 else .no).holds _ _ := q1
            by_cases hj : -1000000 ≤ i ∧ i ≤ 1000000 ∧ -1000000 ≤ j ∧ j ≤ 1000000
            · rw [if_pos hj] at q2
              exact ⟨i, j, rfl, ⟨by omega, by omega, by omega, by omega⟩, q2 S1 H1 _ s1 t1 E1 iter_rng⟩
            · rw [if_neg hj] at q2
              exact q2.elim
          | _ => exact q1.elim
        | _ => cases c <;> exact q1.elim
/-- the items with their numbers -/
def enumD : Nat → List D → List D
  | _, [] => []
  | i, d :: r => .tup [.int (i : Nat), d] :: enumD (i + 1) r
theorem enumD_length : ∀ (i : Nat) (ds : List D), (enumD i ds).length = ds.length
  | _, [] => rfl
  | i, d :: r => by rw [enumD, List.length_cons, enumD_length (i + 1) r, List.length_cons]
theorem enumD_get : ∀ (i : Nat) (ds : List D) (j : Nat) (d : D), (enumD i ds)[j]? = some d → ∃ x, ds[j]? = some x ∧ d = .tup [.int ((i + j : Nat) : Int), x]
  | _, [], j, d, h => by simp [enumD] at h
  | i, x :: r, 0, d, h => by
    rw [enumD] at h
    simp only [List.getElem?_cons_zero, Option.some.injEq] at h
    exact ⟨x, rfl, h.symm⟩
  | i, x :: r, j + 1, d, h => by
    rw [enumD, List.getElem?_cons_succ] at h
    obtain ⟨y, h1, h2⟩ := enumD_get (i + 1) r j d h
    refine ⟨y, by rw [List.getElem?_cons_succ]; exact h1, ?_⟩
    rw [h2]
    congr 4
    omega
theorem iter_enum {K : PySem.W.Frag} {S : Hp} {a : Addr} {vs : List V} {ds : List D} (h : ∀ H, Same S H → SqL K H a vs) (hd : DtAll K S vs ds) : IterOk K S (Ite K a) (enumD 0 ds) := by
  intro i S' H' s u
  have q := h H' (s.trans u)
  refine ⟨fun d hi => ?_, fun hi => ⟨vs, q, by rw [hd.length, ← enumD_length 0 ds]; exact hi⟩⟩
  obtain ⟨y, g1, g2⟩ := enumD_get 0 ds i d hi
  subst g2
  obtain ⟨v, h1, h2⟩ := hd.get g1
  refine ⟨⟨vs, v, q, h1⟩, fun x H'' yl => ?_⟩
  obtain ⟨T, w, e1, e2, e3, e4⟩ := yl
  subst e1 e3
  have e5 : v = w := Option.some.inj (h1.symm.trans (e4 vs q))
  subst e5
  have hS := none_of_same u e2
  refine ⟨same_upd e2, upd S' T (.tup [.int (i : Nat), v]), same_upd hS, same_upd2 u, fun b hb n => ?_, ?_⟩
  · rw [upd_ne (fun z => hb (by rw [z]; exact e2))]
    exact n
  · have e6 : ((0 + i : Nat) : Int) = (i : Int) := by omega
    rw [e6]
    exact .tup (.inl (.inl upd_same)) (.cons (.int _) (.cons ((h2.mono s).mono (same_upd hS)) .nil))
def enum1D (ds : List D) (e : Ev) : Rz (List D) := match ds with
  | [.lst xs] => .ok (enumD 0 xs) e
  | [.fro xs] => .ok (enumD 0 xs) e
  | _ => .no
def dEnum (a : Ev → Rz (List D)) (e : Ev) : Rz (List D) := (a e).bind enum1D
theorem qi_enum {tg l : Expr} {ta : TA} {a : Expr} (h : QA X W p [a] ta da) (hp : PI X tg l (iEnum X.K ta)) : QI X W p tg l (iEnum X.K ta) (dEnum da) := by
  refine ⟨hp, fun F S σ H env R E q => h.sim F S σ H env _ E (Rz.imp (Rz.bind_holds q) (fun ds e1 q1 S1 H1 vs s1 t1 E1 d1 => ?_) fun _ _ _ z => z)⟩
  cases d1 with
  | nil => exact q1.elim
  | cons b t =>
    cases t with
    | cons c t => cases b <;> exact q1.elim
    | nil =>
      cases b with
      | lst a t => exact ⟨_, _, rfl, .inl (.inl (E1.sub _ _ a)), q1 S1 H1 _ s1 t1 E1 (iter_enum (fun H2 s2 => .inl (.inl (s2 _ _ a))) t)⟩
      | fro a t => exact ⟨_, _, rfl, E1.sub.seq a, q1 S1 H1 _ s1 t1 E1 (iter_enum (fun H2 s2 => s2.seq a) t)⟩
      | _ => exact q1.elim

/-! ### comprehensions -/
def wipeE : List Nat → Ev → Option Ev
  | [], e => some e
  | v :: vs, e => (wipeE vs e).bind (put v .un)
theorem EnvOk.wipe {K : PySem.W.Frag} {Fr : Fm} {S H : Hp} {σ : L2.St} : ∀ {vs : List Nat} {env env' : Ev}, EnvOk K Fr S σ H env → wipeE vs env = some env' → EnvOk K Fr S (L2.wipe σ vs) H env'
  | [], _, _, E, h => by cases h; exact E
  | v :: vs, env, env', E, h => by
    obtain ⟨e1, h1, h2⟩ := Option.bind_eq_some_iff.mp h
    exact (EnvOk.wipe E h1).putUn h2
theorem wipeE_io : ∀ {vs : List Nat} {env env' : Ev} {i : Nat} {xs : List D}, wipeE vs env = some env' → env'[i]? = some (.own true xs) → i ∉ vs ∧ env[i]? = some (.own true xs)
  | [], _, _, i, xs, h, h2 => by cases h; exact ⟨by simp, h2⟩
  | v :: vs, env, env', i, xs, h, h2 => by
    obtain ⟨e1, h1, h3⟩ := Option.bind_eq_some_iff.mp h
    obtain ⟨h4, h5, h6⟩ := put_some h3
    subst h5
    by_cases hi : i = v
    · rw [hi, List.getElem?_set_self h4] at h2
      cases h2
    · rw [List.getElem?_set_ne (Ne.symm hi)] at h2
      obtain ⟨h7, h8⟩ := wipeE_io h1 h2
      exact ⟨by simp only [List.mem_cons, not_or]; exact ⟨hi, h7⟩, h8⟩
def keepD (s : Option Sl) : Sl := match s with
  | some (.dat d) => .dat d
  | _ => .un
/-- behind the comprehension its own names are what they were -/
def backE (e0 : Ev) : List Nat → Ev → Ev
  | [], e => e
  | v :: vs, e => (backE e0 vs e).set v (keepD e0[v]?)
theorem backE_length (e0 : Ev) : ∀ (vs : List Nat) (e : Ev), (backE e0 vs e).length = e.length
  | [], e => rfl
  | v :: vs, e => by rw [backE, List.length_set, backE_length e0 vs e]
theorem backE_get (e0 : Ev) : ∀ (vs : List Nat) (e : Ev) (i : Nat) (s : Sl), (backE e0 vs e)[i]? = some s → (i ∈ vs ∧ s = keepD e0[i]?) ∨ (i ∉ vs ∧ e[i]? = some s)
  | [], e, i, s, h => .inr ⟨by simp, h⟩
  | v :: vs, e, i, s, h => by
    rw [backE] at h
    by_cases hi : i = v
    · subst hi
      have hl : i < (backE e0 vs e).length := by
        have := (List.getElem?_eq_some_iff.mp h).1
        rwa [List.length_set] at this
      rw [List.getElem?_set_self hl] at h
      exact .inl ⟨by simp, (Option.some.inj h).symm⟩
    · rw [List.getElem?_set_ne (Ne.symm hi)] at h
      rcases backE_get e0 vs e i s h with ⟨a, b⟩ | ⟨a, b⟩
      · exact .inl ⟨List.mem_cons_of_mem _ a, b⟩
      · exact .inr ⟨by simp only [List.mem_cons, not_or]; exact ⟨hi, a⟩, b⟩
theorem backE_out (e0 : Ev) : ∀ (vs : List Nat) (e : Ev) (i : Nat), i ∉ vs → (backE e0 vs e)[i]? = e[i]?
  | [], e, i, h => rfl
  | v :: vs, e, i, h => by
    simp only [List.mem_cons, not_or] at h
    rw [backE, List.getElem?_set_ne (Ne.symm h.1), backE_out e0 vs e i h.2]
theorem wipe_out {σ : L2.St} {i : Nat} : ∀ {vs : List Nat}, i ∉ vs → (L2.wipe σ vs)[i]? = σ[i]?
  | [], h => rfl
  | v :: vs, h => by
    simp only [List.mem_cons, not_or] at h
    unfold L2.wipe
    rw [List.getElem?_set_ne (Ne.symm h.1), wipe_out h.2]
theorem EnvOk.back {K : PySem.W.Frag} {Fr : Fm} {S0 S H0 H : Hp} {σ : L2.St} {vs : List Nat} {e0 e : Ev} (E0 : EnvOk K Fr S0 σ H0 e0) (E : EnvOk K Fr S (L2.wipe σ vs) H e) (s : Same S0 S) : EnvOk K Fr S σ H (backE e0 vs e) := by
  have own : ∀ {i q}, Own (backE e0 vs e) σ i q → Own e (L2.wipe σ vs) i q := fun {i q} ⟨⟨a, xs, h1⟩, h2⟩ => by
    rcases backE_get e0 vs e i _ h1 with ⟨_, h3⟩ | ⟨h3, h4⟩
    · unfold keepD at h3
      split at h3 <;> cases h3
    · exact ⟨⟨a, xs, h4⟩, by rw [wipe_out h3]; exact h2⟩
  refine ⟨by rw [backE_length, ← E.len, L2.wipe_length], E.sub, E.frame, E.grow, E.avoid, fun i x o h1 h2 => ?_, fun i j q hij h1 h2 => E.inj i j q hij (own h1) (own h2), fun q hq => ?_, E.gin, fun b hb => ?_⟩
  · rcases backE_get e0 vs e i x h1 with ⟨_, h3⟩ | ⟨h3, h4⟩
    · subst h3
      cases z : e0[i]? with
      | none => trivial
      | some y =>
        cases y with
        | un => trivial
        | own a xs => trivial
        | dat d =>
          obtain ⟨v, g1, g2⟩ := E0.slot i _ _ z h2
          exact ⟨v, g1, g2.mono s⟩
    · exact E.slot i x o h4 (by rw [wipe_out h3]; exact h2)
  · obtain ⟨h1, xs, h2⟩ := E.io q hq
    obtain ⟨h3, h4⟩ := L2.wipe_some h1
    exact ⟨h3, xs, by rw [backE_out e0 vs e _ h4]; exact h2⟩
  · obtain ⟨h1, h2, h3, h4⟩ := E.prot b hb
    exact ⟨h1, h2, h3, fun i z => h4 i (own z)⟩
/-- the turns of a comprehension: e is the slots with its own names wiped -/
def lcLoop (g : D → Ev → Option Ev) (t : Ev → Rz Bool) (a : Ev → Rz D) (vs : List Nat) : List D → List D → Ev → Option (List D × Ev)
  | [], acc, e => some (acc, e)
  | d :: r, acc, e => match g d e with
    | none => none
    | some e1 => match t e1 with
      | .ok true e2 => (match a e2 with
        | .ok y e3 => (wipeE vs e3).bind fun e4 => if acc.length < 1000000 then lcLoop g t a vs r (acc ++ [y]) e4 else none
        | _ => none)
      | .ok false e2 => (wipeE vs e2).bind fun e3 => lcLoop g t a vs r acc e3
      | _ => none
def dLc (it : Ev → Rz (List D)) (g : D → Ev → Option Ev) (t : Ev → Rz Bool) (a : Ev → Rz D) (vs : List Nat) (e : Ev) : Rz (List D) := (it e).bind fun ds e1 => match wipeE vs e1 with
  | none => .no
  | some e2 => match lcLoop g t a vs ds [] e2 with
    | none => .no
    | some (acc, e3) => .ok acc (backE e1 vs e3)
abbrev W0 : WX := fun _ _ _ _ => False
def dYes (e : Ev) : Rz Bool := .ok true e
structure QTs (X : Cx) (W : WX) (p : Bool) (ifs : List Expr) (tt : TT) (dt : Ev → Rz Bool) : Prop where
  pts : PTs X ifs tt
  sim : ∀ F, SimT X.K F W p tt dt
theorem qts_nil : QTs X W p [] tYes dYes := ⟨pts_nil, fun F S σ H env Q E q => q S H (Same.refl _) (fun _ => Gr.refl _ _) E⟩
theorem qts_one {c : Expr} {tt : TT} {dt : Ev → Rz Bool} (h : QT X W p c tt dt) : QTs X W p [c] tt dt := ⟨pts_one h.pt, h.sim⟩
/-- r is protected from now on -/
def guardF (Fr : Fm) (r : Addr) (H : Hp) : Fm := { Fr with R := fun b => Fr.R b ∨ b = r, HR := fun b => if b = r then H r else Fr.HR b }
theorem EnvOk.guard {K : PySem.W.Frag} {Fr : Fm} {S H : Hp} {σ : L2.St} {env : Ev} {r : Addr} {xs : List D} (E : EnvOk K Fr S σ H env) (N : NewL K Fr S H σ env r xs) : EnvOk K (guardF Fr r H) S σ H env := by
  obtain ⟨vs, h1, h2⟩ := N.at_
  refine ⟨E.len, E.sub, E.frame, E.grow, E.avoid, fun i s o h3 h4 => ?_, E.inj, E.io, E.gin, fun b hb => ?_⟩
  · have q := E.slot i s o h3 h4
    cases s with
    | un => trivial
    | dat d => exact q
    | own a xs => cases a <;> exact q
  · by_cases e : b = r
    · subst e
      exact ⟨(if_pos rfl).symm, by show (if b = b then H b else Fr.HR b) ≠ none; rw [if_pos rfl]; exact some_ne h1, N.off, N.apart⟩
    · rcases hb with hb | hb
      · obtain ⟨g1, g2, g3, g4⟩ := E.prot b hb
        exact ⟨by show H b = if b = r then H r else Fr.HR b; rw [if_neg e]; exact g1, by show (if b = r then H r else Fr.HR b) ≠ none; rw [if_neg e]; exact g2, g3, g4⟩
      · exact absurd hb e
theorem EnvOk.unguard {K : PySem.W.Frag} {Fr : Fm} {S H H1 : Hp} {σ : L2.St} {env : Ev} {r : Addr} (E : EnvOk K (guardF Fr r H1) S σ H env) (hr : ¬ Fr.R r) : EnvOk K Fr S σ H env ∧ H r = H1 r ∧ S r = none ∧ ∀ i, ¬ Own env σ i r := by
  have pr := E.prot r (.inr rfl)
  have e0 : (guardF Fr r H1).HR r = H1 r := if_pos rfl
  refine ⟨⟨E.len, E.sub, E.frame, E.grow, E.avoid, fun i s o h3 h4 => ?_, E.inj, E.io, E.gin, fun b hb => ?_⟩, by rw [pr.1, e0], pr.2.2.1, pr.2.2.2⟩
  · have q := E.slot i s o h3 h4
    cases s with
    | un => trivial
    | dat d => exact q
    | own a xs => cases a <;> exact q
  · obtain ⟨g1, g2, g3, g4⟩ := E.prot b (.inl hb)
    have e : b ≠ r := fun z => hr (by rw [← z]; exact hb)
    have e1 : (guardF Fr r H1).HR b = Fr.HR b := if_neg e
    rw [e1] at g1 g2
    exact ⟨g1, g2, g3, g4⟩
theorem own_back {σ : L2.St} {vs : List Nat} {e0 e : Ev} {i : Nat} {q : Addr} (h : Own (backE e0 vs e) σ i q) : Own e (L2.wipe σ vs) i q := by
  obtain ⟨⟨a, xs, h1⟩, h2⟩ := h
  rcases backE_get e0 vs e i _ h1 with ⟨_, h3⟩ | ⟨h3, h4⟩
  · unfold keepD at h3
    split at h3 <;> cases h3
  · exact ⟨⟨a, xs, h4⟩, by rw [wipe_out h3]; exact h2⟩
theorem wipe_in {σ : L2.St} {i : Nat} : ∀ {vs : List Nat}, i ∈ vs → i < σ.length → (L2.wipe σ vs)[i]? = some none
  | [], h, _ => by simp at h
  | v :: vs, h, hl => by
    unfold L2.wipe
    by_cases e : i = v
    · subst e
      rw [List.getElem?_set_self (by rw [L2.wipe_length]; exact hl)]
    · rw [List.getElem?_set_ne (Ne.symm e)]
      exact wipe_in ((List.mem_cons.mp h).resolve_left e) hl
theorem wipe_only {σ σ' : L2.St} {js vs : List Nat} (h : OnlyAt js (L2.wipe σ vs) σ') (hj : ∀ j ∈ js, j ∈ vs) : L2.wipe σ' vs = L2.wipe σ vs := by
  have hl : σ'.length = σ.length := by rw [h.1, L2.wipe_length]
  refine List.ext_getElem? fun i => ?_
  by_cases hi : i ∈ vs
  · by_cases hlt : i < σ.length
    · rw [wipe_in hi (by rw [hl]; exact hlt), wipe_in hi hlt]
    · rw [List.getElem?_eq_none (by rw [L2.wipe_length, hl]; omega), List.getElem?_eq_none (by rw [L2.wipe_length]; omega)]
  · rw [wipe_out hi, wipe_out hi, h.2 i (fun z => hi (hj i z)), wipe_out hi]
/-- a new list is changed -/
theorem EnvOk.more {K : PySem.W.Frag} {Fr : Fm} {S H : Hp} {σ : L2.St} {env : Ev} {r : Addr} {xs ys : List D} {ws : List V} (E : EnvOk K Fr S σ H env) (N : NewL K Fr S H σ env r xs) (hw : DtAll K S ws ys) :
    EnvOk K Fr S σ (upd H r (.lst ws)) env ∧ NewL K Fr S (upd H r (.lst ws)) σ env r ys :=
  ⟨E.thrown N (Same.refl _) (fun b o hb e => by rw [upd_ne hb]; exact e) (same_upd_of E.sub N.off) fun _ _ n => n, ⟨ws, upd_same, hw⟩, N.off, N.new, N.apart, N.nr⟩
theorem sim_lc {K : PySem.W.Frag} {Fr : Fm} {wi : TI} {di : Ev → Rz (List D)} {js vs : List Nat} {g : TG} {dg : D → Ev → Option Ev} {tt : TT} {dt : Ev → Rz Bool} {te : TE} {de : Ev → Rz D}
    (hi : SimI K Fr W p wi di) (hg : ∀ F, SimG K F js g dg) (ht : ∀ F, SimT K F W0 p tt dt) (he : ∀ F, SimE K F W0 p te de) (hj : ∀ j ∈ js, j ∈ vs) : SimN K Fr W p (tLc wi g tt te vs) (dLc di dg dt de vs) := by
  intro S σ H env Q E q
  refine hi S σ H env _ E (Rz.imp (Rz.bind_holds q) (fun ds e1 q1 S1 H1 J s1 t1 E1 io => ?_) fun _ _ _ z => z)
  cases z : wipeE vs e1 with
  | none => simp only [z] at q1; exact q1.elim
  | some e2 =>
    simp only [z] at q1
    cases z2 : lcLoop dg dt de vs ds [] e2 with
    | none => simp only [z2] at q1; exact q1.elim
    | some ae =>
      obtain ⟨acc, e3⟩ := ae
      simp only [z2] at q1
      intro Dl hD
      have base : EnvOk K Fr S1 (L2.wipe σ vs) H1 e2 := E1.wipe z
      refine ⟨fun i m H' => m + i = ds.length ∧ ∃ S' env' acc', Same S1 S' ∧ (p = true → Gr S1 H1 S' H') ∧ EnvOk K Fr S' (L2.wipe σ vs) H' env' ∧ NewL K Fr S' H' (L2.wipe σ vs) env' Dl acc' ∧ lcLoop dg dt de vs (ds.drop i) acc' env' = some (acc, e3), ⟨ds.length, by omega, S1, e2, [], Same.refl _, fun _ => ⟨same_upd hD, fun _ _ n => n⟩, (base.layN hD .nil).1, (base.layN hD .nil).2, z2⟩, ?_⟩
      rintro i m H' ⟨hm, S', env', acc', s', gr', E', N', lc⟩
      obtain ⟨io1, io2⟩ := io i S' H' s' E'.sub
      by_cases hlt : i < ds.length
      · rw [List.drop_eq_getElem_cons hlt, lcLoop] at lc
        obtain ⟨go, yld⟩ := io1 ds[i] (List.getElem?_eq_getElem hlt)
        refine .inr ⟨go, fun H2 => ∃ S2 env2 acc2, Same S1 S2 ∧ (p = true → Gr S1 H1 S2 H2) ∧ EnvOk K Fr S2 (L2.wipe σ vs) H2 env2 ∧ NewL K Fr S2 H2 (L2.wipe σ vs) env2 Dl acc2 ∧ lcLoop dg dt de vs (ds.drop (i + 1)) acc2 env2 = some (acc, e3), fun H2 w2 => ⟨m - 1, by omega, by omega, w2⟩, fun x H'' y => ?_⟩
        obtain ⟨t2, S'', s2, u2, av2, dx⟩ := yld x H'' y
        have E2 := E'.mono s2 t2 u2 av2
        have N2 := N'.mono s2 t2 av2
        have gr2 : p = true → Gr S1 H1 S'' H'' := fun hp => (gr' hp).trans ⟨t2, av2⟩
        obtain ⟨ws, w1, w2⟩ := N2.at_
        cases zg : dg ds[i] env' with
        | none => simp only [zg] at lc; cases lc
        | some e4 =>
          simp only [zg] at lc
          refine hg (guardF Fr Dl H'') S'' (L2.wipe σ vs) H'' env' x ds[i] e4 _ (E2.guard N2) dx zg fun σ3 E3 o3 => ?_
          have hw3 : L2.wipe σ3 vs = L2.wipe σ vs := wipe_only o3 hj
          refine ⟨hw3, ?_⟩
          refine ht (guardF Fr Dl H'') S'' σ3 H'' e4 _ E3 ?_
          cases zt : dt e4 with
          | no => simp only [zt] at lc; cases lc
          | ex c y e5 => simp only [zt] at lc; cases lc
          | ok b e5 =>
            intro S4 H4 s4 t4 E4
            cases b with
            | false =>
              simp only [zt] at lc
              obtain ⟨e6, zw, lc2⟩ := Option.bind_eq_some_iff.mp lc
              have E5 := E4.wipe zw
              rw [hw3] at E5
              obtain ⟨E6, g1, g2, g3⟩ := E5.unguard N2.nr
              exact ⟨S4, e6, acc', (s'.trans s2).trans s4, fun hp => (gr2 hp).trans (t4 hp), E6, ⟨⟨ws, by rw [g1]; exact w1, w2.mono s4⟩, g2, N2.new, g3, N2.nr⟩, lc2⟩
            | true =>
              simp only [zt] at lc
              show te σ3 H4 _
              refine he (guardF Fr Dl H'') S4 σ3 H4 e5 _ E4 ?_
              cases ze : de e5 with
              | no => simp only [ze] at lc; cases lc
              | ex c y e6 => simp only [ze] at lc; cases lc
              | ok yv e6 =>
                simp only [ze] at lc
                intro S5 H5 v s5 t5 E5 dv
                obtain ⟨e7, zw, lc2⟩ := Option.bind_eq_some_iff.mp lc
                have E6 := E5.wipe zw
                rw [hw3] at E6
                obtain ⟨E7, g1, g2, g3⟩ := E6.unguard N2.nr
                have w3 : DtAll K S5 ws acc' := (w2.mono s4).mono s5
                have N7 : NewL K Fr S5 H5 (L2.wipe σ vs) e7 Dl acc' := ⟨⟨ws, by rw [g1]; exact w1, w3⟩, g2, N2.new, g3, N2.nr⟩
                by_cases hz : acc'.length < 1000000
                · rw [if_pos hz] at lc2
                  obtain ⟨E8, N8⟩ := E7.more N7 (w3.append (.cons dv .nil))
                  refine ⟨ws, by rw [g1]; exact w1, ?_, S5, e7, acc' ++ [yv], ((s'.trans s2).trans s4).trans s5, fun hp => ?_, E8, N8, lc2⟩
                  · rw [w3.length]
                    exact Nat.lt_of_lt_of_le hz (size_ok (Nat.le_refl _))
                  · have gg := ((gr2 hp).trans (t4 hp)).trans (t5 hp)
                    refine ⟨fun b o hb => ?_, gg.av⟩
                    rw [upd_ne (ne_of_none hb hD)]
                    exact gg.same b o hb
                · rw [if_neg hz] at lc2
                  cases lc2
      · refine .inl ⟨io2 (by omega), ?_⟩
        rw [List.drop_eq_nil_of_le (by omega), lcLoop] at lc
        have e4 : acc' = acc ∧ env' = e3 := by
          have := Option.some.inj lc
          exact Prod.mk.inj this
        obtain ⟨e5, e6⟩ := e4
        subst e5 e6
        refine q1 S' H' Dl (s1.trans s') (fun hp => ⟨(t1 hp).trans (gr' hp), (t1 hp).none hD⟩) (E1.back E' s') ⟨N'.at_, N'.off, N'.new, fun i h => N'.apart i (own_back h), N'.nr⟩
theorem qn_lc {elt tg iter : Expr} {ifs : List Expr} {scope : Scope} {own : List (Str × Nat)} {wi : TI} {di : Ev → Rz (List D)} {js : List Nat} {g : TG} {dg : D → Ev → Option Ev} {tt : TT} {dt : Ev → Rz Bool} {te : TE} {de : Ev → Rz D} (hc : X.calm = true) (hN : X.N.Nodup)
    (hi : QI X W p tg iter wi di) (ok : BlkOk X.N X.env.scope scope own)
    (hg : ∀ (s : Shared) (H : Hp) (C : Addr) (cl : List (Str × Addr)) (fp : List Addr), QG (X.blk s H scope (compEnvC scope cl C X.env) fp) tg js g dg)
    (ht : ∀ (s : Shared) (H : Hp) (C : Addr) (cl : List (Str × Addr)) (fp : List Addr), QTs (X.blk s H scope (compEnvC scope cl C X.env) fp) W0 p ifs tt dt)
    (he : ∀ (s : Shared) (H : Hp) (C : Addr) (cl : List (Str × Addr)) (fp : List Addr), QE (X.blk s H scope (compEnvC scope cl C X.env) fp) W0 p elt te de) (hj : ∀ j ∈ js, j ∈ own.map (·.2))
    (hs : ∀ x, foldedSetIterable iter X.env x = pure x := by intro _; rfl) : QN X W p (.ListComp elt [⟨tg, iter, ifs, 0⟩] scope pos) (tLc wi g tt te (own.map (·.2))) (dLc di dg dt de (own.map (·.2))) :=
  ⟨pe_lc hc hN hi.pi ok (fun s H C cl fp => (hg s H C cl fp).pg) (fun s H C cl fp => (ht s H C cl fp).pts) (fun s H C cl fp => (he s H C cl fp).pe) hs,
    fun Fr => sim_lc (hi.sim Fr) (hg X.s_0 X.H_0 0 [] []).sim (ht X.s_0 X.H_0 0 [] []).sim (he X.s_0 X.H_0 0 [] []).sim hj⟩
end
end DL
set_option Elab.async false
set_option linter.all false
set_option maxRecDepth 100000
set_option maxHeartbeats 4000000
/-! DL, part g: isinstance, list(..), + and * of lists, two stores at once, repr. -/
namespace DL
open PySem PySem.Spec PyProof.Rows L2

section
variable {K : PySem.W.Frag} {F : Fm} {W : WX} {p : Bool}
/-- one place, the answer flat -/
def UnD (K : PySem.W.Frag) (r : V → Hp → VK → Prop) (f : D → Option D) : Prop := ∀ (H : Hp) (v : V) (x z : D) (Q : VK), Dt K H v x → f x = some z → (∀ u, (∀ S, Dt K S u z) → Q u H) → r v H Q
theorem sim_un {r : V → Hp → VK → Prop} {f : D → Option D} {ta : TE} {da : Ev → Rz D} (hs : UnD K r f) (ha : SimE K F W p ta da) : SimE K F W p (tUn r ta) (dUn f da) := fun S σ H env Q E q =>
  ha S σ H env _ E (Rz.imp (Rz.bind_holds q) (fun x e1 q1 S1 H1 v s1 t1 E1 d1 => by
    obtain ⟨z, ez, k⟩ := oz_holds q1
    exact hs H1 v x z Q (d1.mono E1.sub) ez fun u hu => k S1 H1 u s1 t1 E1 (hu S1)) fun _ _ _ z => z)
theorem sim_unR {r : V → Hp → VK → Prop} {f : D → Option D} {ta : TE} {da : Ev → Rz D} (hs : UnD K r f) (ha : SimR K F W ta da) (u : ∀ env d e', da env = .ok d e' → e' = env) : SimE K F W p (tUn r ta) (dUn f da) := by
  intro S σ H env Q E q
  have q' := Rz.bind_holds q
  refine ha S σ H env _ E ?_
  cases z : da env with
  | no => rw [z] at q'; exact q'
  | ex c x e => rw [z] at q'; exact q'
  | ok x e1 =>
    rw [z] at q'
    have ee := u _ _ _ z
    subst ee
    intro S1 H1 v s1 t1 E1 d1
    obtain ⟨y, ey, k⟩ := oz_holds (show (oz (f x) e1).holds _ _ from q')
    exact hs H1 v x y Q d1 ey fun u hu => k S1 H1 u s1 (fun _ => t1) E1 (hu S1)
end

/-! ### isinstance -/
def tyName (d : D) : Option String := match d with
  | .non => some "NoneType"
  | .bl _ => some "bool"
  | .int _ => some "int"
  | .str _ => some "str"
  | .lst _ => some "list"
  | .fro _ => some "list"
  | .tup _ => some "tuple"
  | .dic _ => some "dict"
  | _ => none
def fIsi (n : String) (d : D) : Option D := (tyName d).bind fun T => (kitB T n).map .bl
theorem tyx_of {K : PySem.W.Frag} {H : Hp} {v : V} {d : D} {T : String} (h : Dt K H v d) (e : tyName d = some T) : TyX K H v (.type T) := by
  cases h with
  | non => cases e; exact .base .non
  | bl b => cases e; exact .base (.bl b)
  | int i => cases e; exact .base (.int i)
  | str x => cases e; exact .base (.str x)
  | lst a _ => cases e; exact .base (.lst a)
  | fro a _ =>
    cases e
    rcases a with (a | ⟨o, a⟩) | ⟨o, its, n, a, b, _⟩
    · exact .base (.lst a)
    · exact .base (.frz a)
    · exact .kList a b
  | tup a _ =>
    cases e
    rcases a with (a | ⟨o, a⟩) | ⟨o, its, n, a, b, _⟩
    · exact .base (.tup a)
    · exact .fTuple a
    · exact .kTuple a b
  | dic a _ => cases e; exact .base (.dK a)
  | ins _ _ => cases e
  | exn _ _ _ => cases e
theorem ud_isi {K : PySem.W.Frag} (n : String) : UnD K (fun x H Q => rIsi K [x, .ty n] H Q) (fIsi n) := by
  intro H v x z Q hv h k
  obtain ⟨T, h1, h2⟩ := Option.bind_eq_some_iff.mp h
  obtain ⟨b, h3, h4⟩ := Option.map_eq_some_iff.mp h2
  subst h4
  exact ⟨v, .ty n, .type T, .type n, b, rfl, .ty n, tyx_of hv h1, kit_ty h3, k _ fun S => .bl _⟩
section
variable {X : Cx} {W : WX} {p : Bool} {x : Str} {pp pos : Pos} {a c : Expr} {ta : TE} {da : Ev → Rz D}
theorem qe_isi (n : String) (ha : QE X W p a ta da) (hp : PE X (.Call (.Name x pp) [a, c] [] pos) (tCB (rIsi X.K) (tCons ta (tCons (tC (.ty n)) tNil)))) :
    QE X W p (.Call (.Name x pp) [a, c] [] pos) (tCB (rIsi X.K) (tCons ta (tCons (tC (.ty n)) tNil))) (dUn (fIsi n) da) := ⟨hp, fun F => sim_un (ud_isi n) (ha.sim F)⟩
theorem qe_isiR (n : String) (ha : QR X W a ta da) [u : Still da] (hp : PE X (.Call (.Name x pp) [a, c] [] pos) (tCB (rIsi X.K) (tCons ta (tCons (tC (.ty n)) tNil)))) :
    QE X W p (.Call (.Name x pp) [a, c] [] pos) (tCB (rIsi X.K) (tCons ta (tCons (tC (.ty n)) tNil))) (dUn (fIsi n) da) := ⟨hp, fun F => sim_unR (ud_isi n) (ha.sim F) u.at_⟩
end

/-! ### list(x) -/
def listOf (ds : List D) (e : Ev) : Rz (List D) := match ds with
  | [.lst xs] => .ok xs e
  | [.fro xs] => .ok xs e
  | [.tup xs] => .ok xs e
  | _ => .no
def dListOf (a : Ev → Rz (List D)) (e : Ev) : Rz (List D) := (a e).bind listOf
abbrev rListOf (K : PySem.W.Frag) : List V → Hp → VK → Prop := fun xs H Q => ∃ p ys, xs = [.ref p] ∧ (SqL K H p ys ∨ SqT K H p ys) ∧ ∀ l, H l = none → Q (.ref l) (upd H l (.lst ys))
theorem sim_listOf {K : PySem.W.Frag} {F : Fm} {W : WX} {p : Bool} {t : TA} {da : Ev → Rz (List D)} (h : SimA K F W p t da) : SimN K F W p (tCB (rListOf K) t) (dListOf da) := by
  intro S σ H env Q E q
  refine h S σ H env _ E (Rz.imp (Rz.bind_holds q) (fun ds e1 q1 S1 H1 vs s1 t1 E1 d1 => ?_) fun _ _ _ z => z)
  have fin : ∀ {g : Addr} {ys : List V} {xs : List D}, (SqL K H1 g ys ∨ SqT K H1 g ys) → DtAll K S1 ys xs → (Rz.ok xs e1).holds (fun xs e => ∀ S' H' q, Same S S' → (p = true → Gr S H S' H' ∧ H q = none) → EnvOk K F S' σ H' e → NewL K F S' H' σ e q xs → Q (.ref q) H') (ExW K F W S σ) → rListOf K [.ref g] H1 Q := fun {g ys xs} h1 h2 k => by
    refine ⟨g, ys, rfl, h1, fun r hr => ?_⟩
    obtain ⟨E2, N⟩ := E1.layN hr h2
    exact k S1 _ r s1 (fun z => ⟨(t1 z).trans ⟨same_upd hr, fun _ _ n => n⟩, (t1 z).none hr⟩) E2 N
  cases d1 with
  | nil => exact q1.elim
  | cons b t =>
    cases t with
    | cons c t => cases b <;> exact q1.elim
    | nil =>
      cases b with
      | lst a t => exact fin (.inl (.inl (.inl (E1.sub _ _ a)))) t q1
      | fro a t => exact fin (.inl (E1.sub.seq a)) t q1
      | tup a t => exact fin (.inr (same_t E1.sub a)) t q1
      | _ => exact q1.elim
/-- a list of our own is read, its items flat or not: they stand -/
def dListSee (i : Nat) (e : Ev) : Rz (List D) := onI i e fun _ xs => .ok xs e
theorem sim_listSee {K : PySem.W.Frag} {F : Fm} {W : WX} {p : Bool} {i : Nat} : SimN K F W p (tCB (rListOf K) (tCons (tVar i) tNil)) (dListSee i) := by
  intro S σ H env Q E q
  obtain ⟨a, xs, h1, q1⟩ := onI_holds q
  obtain ⟨g, ws, hg, hH, hS, hw⟩ := own_of E h1
  refine ⟨.ref g, hg, g, ws, rfl, .inl (.inl (.inl hH)), fun r hr => ?_⟩
  obtain ⟨E2, N⟩ := E.layN hr hw
  exact q1 S _ r (Same.refl _) (fun _ => ⟨⟨same_upd hr, fun _ _ n => n⟩, hr⟩) E2 N
section
variable {X : Cx} {W : WX} {p : Bool} {x : Str} {pp pos : Pos} {a b : Expr} {es : List Expr} {ta tb : TE} {t : TA} {da db : Ev → Rz D} {dl : Ev → Rz (List D)}
theorem qn_listOf (h : QA X W p [a] t dl) (hp : PE X (.Call (.Name x pp) [a] [] pos) (tCB (rListOf X.K) t)) : QN X W p (.Call (.Name x pp) [a] [] pos) (tCB (rListOf X.K) t) (dListOf dl) := ⟨hp, fun F => sim_listOf (h.sim F)⟩
theorem qn_listSee (i : Nat) (hp : PE X (.Call (.Name x pp) [a] [] pos) (tCB (rListOf X.K) (tCons (tVar i) tNil))) : QN X W p (.Call (.Name x pp) [a] [] pos) (tCB (rListOf X.K) (tCons (tVar i) tNil)) (dListSee i) := ⟨hp, fun F => sim_listSee⟩

/-! ### a + b, a * n of lists that stand -/
def catD (x y : D) : Option (List D) := match x, y with
  | .lst a, .lst b => if a.length + b.length ≤ 1000000 then some (a ++ b) else none
  | _, _ => none
def dCat (a b : Ev → Rz D) (e : Ev) : Rz (List D) := (a e).bind fun x e1 => (b e1).bind fun y e2 => oz (catD x y) e2
def repD (x y : D) : Option (List D) := match x, y with
  | .lst a, .int k => if -1000000 ≤ k ∧ k ≤ 1000000 ∧ a.length * k.toNat ≤ 1000000 then some (List.replicate k.toNat a).flatten else none
  | _, _ => none
def dRepL (a b : Ev → Rz D) (e : Ev) : Rz (List D) := (a e).bind fun x e1 => (b e1).bind fun y e2 => oz (repD x y) e2
theorem rep_all {K : PySem.W.Frag} {S : Hp} {vs : List V} {ds : List D} (h : DtAll K S vs ds) : ∀ n : Nat, DtAll K S (List.replicate n vs).flatten (List.replicate n ds).flatten
  | 0 => .nil
  | n + 1 => by
    rw [List.replicate_succ, List.replicate_succ, List.flatten_cons, List.flatten_cons]
    exact h.append (rep_all h n)
theorem qn_cat (ha : QE X W p a ta da) (hb : QE X W p b tb db) (hp : PE X (.BinOp a .Add b pos) (tOp rCat ta tb)) : QN X W p (.BinOp a .Add b pos) (tOp rCat ta tb) (dCat da db) := by
  refine ⟨hp, fun F S σ H env Q E q => (ha.sim F) S σ H env _ E (Rz.imp (Rz.bind_holds q) (fun x e1 q1 S1 H1 v s1 t1 E1 d1 => ?_) fun _ _ _ z => z)⟩
  refine (hb.sim F) S1 σ H1 e1 _ E1 (Rz.imp (Rz.bind_holds q1) (fun y e2 q2 S2 H2 w s2 t2 E2 d2 => ?_) fun _ _ _ z => z.mono s1)
  obtain ⟨zs, ez, k⟩ := oz_holds q2
  cases d1 with
  | lst g1 c1 =>
    cases d2 with
    | lst g2 c2 =>
      rename_i a1 v1 l1 a2 v2 l2
      have ez' : (if l1.length + l2.length ≤ 1000000 then some (l1 ++ l2) else none) = some zs := ez
      by_cases hz : l1.length + l2.length ≤ 1000000
      · rw [if_pos hz] at ez'
        cases ez'
        refine ⟨_, _, _, _, rfl, rfl, E2.sub _ _ (s2 _ _ g1), E2.sub _ _ g2, by rw [c1.length, c2.length]; exact size_ok hz, fun r hr => ?_⟩
        obtain ⟨E3, N⟩ := E2.layN hr ((c1.mono s2).append c2)
        have gr := tr2 t1 t2
        exact k S2 _ r (s1.trans s2) (fun z => ⟨(gr z).trans ⟨same_upd hr, fun _ _ n => n⟩, (gr z).none hr⟩) E3 N
      · rw [if_neg hz] at ez'
        cases ez'
    | _ => cases ez
  | _ => cases d2 <;> cases ez
theorem qn_rep (ha : QE X W p a ta da) (hb : QE X W p b tb db) (hp : PE X (.BinOp a .Mult b pos) (tOp rRep ta tb)) : QN X W p (.BinOp a .Mult b pos) (tOp rRep ta tb) (dRepL da db) := by
  refine ⟨hp, fun F S σ H env Q E q => (ha.sim F) S σ H env _ E (Rz.imp (Rz.bind_holds q) (fun x e1 q1 S1 H1 v s1 t1 E1 d1 => ?_) fun _ _ _ z => z)⟩
  refine (hb.sim F) S1 σ H1 e1 _ E1 (Rz.imp (Rz.bind_holds q1) (fun y e2 q2 S2 H2 w s2 t2 E2 d2 => ?_) fun _ _ _ z => z.mono s1)
  obtain ⟨zs, ez, k⟩ := oz_holds q2
  cases d1 with
  | lst g1 c1 =>
    cases d2 with
    | int n =>
      rename_i a1 v1 l1
      have ez' : (if -1000000 ≤ n ∧ n ≤ 1000000 ∧ l1.length * n.toNat ≤ 1000000 then some (List.replicate n.toNat l1).flatten else none) = some zs := ez
      by_cases hz : -1000000 ≤ n ∧ n ≤ 1000000 ∧ l1.length * n.toNat ≤ 1000000
      · rw [if_pos hz] at ez'
        cases ez'
        refine ⟨_, n, _, rfl, rfl, E2.sub _ _ (s2 _ _ g1), by omega, by omega, by rw [c1.length]; exact size_ok hz.2.2, fun r hr => ?_⟩
        obtain ⟨E3, N⟩ := E2.layN hr (rep_all (c1.mono s2) n.toNat)
        have gr := tr2 t1 t2
        exact k S2 _ r (s1.trans s2) (fun z => ⟨(gr z).trans ⟨same_upd hr, fun _ _ n => n⟩, (gr z).none hr⟩) E3 N
      · rw [if_neg hz] at ez'
        cases ez'
    | _ => cases ez
  | _ => cases d2 <;> cases ez

/-! ### x, y = a, b -/
def put2 (i j : Nat) (s s' : Sl) (e : Ev) : Option Ev := (put i s e).bind (put j s')
def dParEE (i j : Nat) (a b : Ev → Rz D) (e : Ev) : Rs := (a e).toS fun d e1 => (b e1).toS fun d' e2 => os (put2 i j (.dat d) (.dat d') e2)
def dParNE (i j : Nat) (a : Ev → Rz (List D)) (b : Ev → Rz D) (e : Ev) : Rs := (a e).toS fun d e1 => (b e1).toS fun d' e2 => os (put2 i j (.own false d) (.dat d') e2)
def dParEN (i j : Nat) (a : Ev → Rz D) (b : Ev → Rz (List D)) (e : Ev) : Rs := (a e).toS fun d e1 => (b e1).toS fun d' e2 => os (put2 i j (.dat d) (.own false d') e2)
theorem put2_some {i j : Nat} {s s' : Sl} {e e' : Ev} (h : put2 i j s s' e = some e') : ∃ e1, put i s e = some e1 ∧ put j s' e1 = some e' := Option.bind_eq_some_iff.mp h
section
variable {K : PySem.W.Frag} {F : Fm} {i j : Nat} {da' : Ev → Rz (List D)} {db' : Ev → Rz (List D)}
theorem NewL.put {S H : Hp} {σ : L2.St} {env env' : Ev} {r : Addr} {xs : List D} {d : D} {v : V} (N : NewL K F S H σ env r xs) (h : DL.put i (.dat d) env = some env') : NewL K F S H (σ.set i (some v)) env' r xs := by
  obtain ⟨hi, rfl, _⟩ := put_some h
  refine ⟨N.at_, N.off, N.new, fun j ⟨⟨a, zs, z1⟩, z2⟩ => ?_, N.nr⟩
  by_cases e : j = i
  · subst e
    rw [List.getElem?_set_self hi] at z1
    cases z1
  · rw [List.getElem?_set_ne (Ne.symm e)] at z1 z2
    exact N.apart j ⟨⟨a, zs, z1⟩, z2⟩
theorem sim_parEE (ha : SimE K F W p ta da) (hb : SimE K F W p tb db) : SimS K F W (tPar i j (tCons ta (tCons tb tNil))) (dParEE i j da db) := by
  intro S σ H env D E q
  refine ha S σ H env _ E (Rz.imp (toS_holds q) (fun d e1 q1 S1 H1 v s1 t1 E1 d1 => ?_) fun _ _ _ z => z)
  refine hb S1 σ H1 e1 _ E1 (Rz.imp (toS_holds q1) (fun d' e2 q2 S2 H2 v' s2 t2 E2 d2 => ?_) fun _ _ _ z => z.mono s1)
  obtain ⟨e4, h4, k⟩ := os_holds q2
  obtain ⟨e3, h3, h5⟩ := put2_some h4
  exact ⟨v, v', rfl, k S2 _ H2 (s1.trans s2) ((E2.putDat h3 (d1.mono s2)).putDat h5 d2)⟩
theorem ExW.guard {S H1 : Hp} {σ : L2.St} {r : Addr} {c : Str} {x : D} {e : Ev} (h : ExW K F W S σ c x e) (hr : ¬ F.R r) : ExW K (guardF F r H1) W S σ c x e :=
  fun S' H' cls dd s E xo => h S' H' cls dd s (E.unguard hr).1 xo
theorem sim_parNE (ha : SimN K F W p ta da') (hb : ∀ F, SimE K F W p tb db) : SimS K F W (tPar i j (tCons ta (tCons tb tNil))) (dParNE i j da' db) := by
  intro S σ H env D E q
  refine ha S σ H env _ E (Rz.imp (toS_holds q) (fun d e1 q1 S1 H1 r s1 t1 E1 N1 => ?_) fun _ _ _ z => z)
  refine hb (guardF F r H1) S1 σ H1 e1 _ (E1.guard N1) (Rz.imp (toS_holds q1) (fun d' e2 q2 S2 H2 v' s2 t2 E2 d2 => ?_) fun _ _ _ z => ExW.guard (z.mono s1) N1.nr)
  obtain ⟨e4, h4, k⟩ := os_holds q2
  obtain ⟨e3, h3, h5⟩ := put2_some h4
  obtain ⟨E3, g1, g2, g3⟩ := E2.unguard N1.nr
  obtain ⟨vs, n1, n2⟩ := N1.at_
  have N2 : NewL K F S2 H2 σ e2 r d := ⟨⟨vs, by rw [g1]; exact n1, n2.mono s2⟩, g2, N1.new, g3, N1.nr⟩
  exact ⟨.ref r, v', rfl, k S2 _ H2 (s1.trans s2) ((E3.putNew h3 N2).putDat h5 d2)⟩
def dParNN (i j : Nat) (a b : Ev → Rz (List D)) (e : Ev) : Rs := (a e).toS fun d e1 => (b e1).toS fun d' e2 => os (put2 i j (.own false d) (.own false d') e2)
theorem NewL.putN {S H : Hp} {σ : L2.St} {env env' : Ev} {r r2 : Addr} {xs ys : List D} (N : NewL K F S H σ env r xs) (h : DL.put i (.own false ys) env = some env') (ne : r ≠ r2) : NewL K F S H (σ.set i (some (.ref r2))) env' r xs := by
  obtain ⟨hi, rfl, _⟩ := put_some h
  refine ⟨N.at_, N.off, N.new, fun j ⟨⟨a, zs, z1⟩, z2⟩ => ?_, N.nr⟩
  by_cases e : j = i
  · subst e
    have hl : j < (σ.set j (some (.ref r2))).length := (List.getElem?_eq_some_iff.mp z2).1
    rw [List.getElem?_set_self (by rw [List.length_set] at hl; exact hl)] at z2
    cases z2
    exact ne rfl
  · rw [List.getElem?_set_ne (Ne.symm e)] at z1 z2
    exact N.apart j ⟨⟨a, zs, z1⟩, z2⟩
theorem sim_parNN (ha : SimN K F W p ta da') (hb : ∀ F, SimN K F W p tb db') : SimS K F W (tPar i j (tCons ta (tCons tb tNil))) (dParNN i j da' db') := by
  intro S σ H env D E q
  refine ha S σ H env _ E (Rz.imp (toS_holds q) (fun d e1 q1 S1 H1 r s1 t1 E1 N1 => ?_) fun _ _ _ z => z)
  refine hb (guardF F r H1) S1 σ H1 e1 _ (E1.guard N1) (Rz.imp (toS_holds q1) (fun d' e2 q2 S2 H2 r' s2 t2 E2 M2 => ?_) fun _ _ _ z => ExW.guard (z.mono s1) N1.nr)
  obtain ⟨e4, h4, k⟩ := os_holds q2
  obtain ⟨e3, h3, h5⟩ := put2_some h4
  obtain ⟨E3, g1, g2, g3⟩ := E2.unguard N1.nr
  obtain ⟨vs, n1, n2⟩ := N1.at_
  have N2 : NewL K F S2 H2 σ e2 r d := ⟨⟨vs, by rw [g1]; exact n1, n2.mono s2⟩, g2, N1.new, g3, N1.nr⟩
  have M3 : NewL K F S2 H2 σ e2 r' d' := ⟨M2.at_, M2.off, M2.new, M2.apart, fun z => M2.nr (.inl z)⟩
  exact ⟨.ref r, .ref r', rfl, k S2 _ H2 (s1.trans s2) ((E3.putNew h3 N2).putNew h5 (M3.putN h3 (fun z => M2.nr (.inr z))))⟩
theorem sim_parEN (ha : SimE K F W p ta da) (hb : SimN K F W p tb db') : SimS K F W (tPar i j (tCons ta (tCons tb tNil))) (dParEN i j da db') := by
  intro S σ H env D E q
  refine ha S σ H env _ E (Rz.imp (toS_holds q) (fun d e1 q1 S1 H1 v s1 t1 E1 d1 => ?_) fun _ _ _ z => z)
  refine hb S1 σ H1 e1 _ E1 (Rz.imp (toS_holds q1) (fun d' e2 q2 S2 H2 r s2 t2 E2 N2 => ?_) fun _ _ _ z => z.mono s1)
  obtain ⟨e4, h4, k⟩ := os_holds q2
  obtain ⟨e3, h3, h5⟩ := put2_some h4
  exact ⟨v, .ref r, rfl, k S2 _ H2 (s1.trans s2) ((E2.putDat h3 (d1.mono s2)).putNew h5 (N2.put h3))⟩
end
/-- a statement by its own form and what it does -/
theorem QS.of {st : Stmt} {ts : TS} {ds : Ev → Rs} (h : PS X st ts) (s : ∀ F, SimS X.K F W ts ds) : QS X W st ts ds := ⟨h, s⟩
end

/-! ### repr -/
mutual
theorem py_noDict : ∀ {d : D} {e : PyData}, d.py = some e → e.hasDict = false
  | .non, _, h => by rw [D.py] at h; cases h; rfl
  | .bl b, _, h => by rw [D.py] at h; cases h; rfl
  | .int i, _, h => by rw [D.py] at h; cases h; rfl
  | .str x, _, h => by rw [D.py] at h; cases h; rfl
  | .lst xs, _, h => by
    rw [D.py] at h
    obtain ⟨ds, h1, h2⟩ := Option.map_eq_some_iff.mp h
    subst h2
    exact (show (PyData.list ds).hasDict = PyData.hasDictAll ds by simp only [PyData.hasDict]).trans (py_noDictAll h1)
  | .fro xs, _, h => by
    rw [D.py] at h
    obtain ⟨ds, h1, h2⟩ := Option.map_eq_some_iff.mp h
    subst h2
    exact (show (PyData.list ds).hasDict = PyData.hasDictAll ds by simp only [PyData.hasDict]).trans (py_noDictAll h1)
  | .tup xs, _, h => by
    rw [D.py] at h
    obtain ⟨ds, h1, h2⟩ := Option.map_eq_some_iff.mp h
    subst h2
    exact (show (PyData.tuple ds).hasDict = PyData.hasDictAll ds by simp only [PyData.hasDict]).trans (py_noDictAll h1)
  | .dic _, _, h => by rw [D.py] at h; cases h
  | .ins _ _, _, h => by rw [D.py] at h; cases h
  | .exn _ _, _, h => by rw [D.py] at h; cases h
theorem py_noDictAll : ∀ {ds : List D} {es : List PyData}, D.pyAll ds = some es → PyData.hasDictAll es = false
  | [], _, h => by rw [D.pyAll] at h; cases h; rfl
  | d :: ds, _, h => by
    rw [D.pyAll] at h
    cases h1 : d.py with
    | none => rw [h1] at h; cases h
    | some e =>
      cases h2 : D.pyAll ds with
      | none => rw [h1, h2] at h; cases h
      | some es =>
        rw [h1, h2] at h
        cases h
        simp only [PyData.hasDictAll, py_noDict h1, py_noDictAll h2, Bool.or_false]
end
def kPy : Key → PyData
  | .inl i => .int i
  | .inr x => .str x
def flatPy : D → Option PyData
  | .non => some .none
  | .bl b => some (.bool b)
  | .int i => some (.int i)
  | .str x => some (.str x)
  | _ => none
def dicPy : List (Key × D) → Option (List (PyData × PyData))
  | [] => some []
  | (k, d) :: r => match flatPy d, dicPy r with
    | some x, some xs => some ((kPy k, x) :: xs)
    | _, _ => none
section
variable {P : Program} {w : World} {K : PySem.W.Frag} {H : Hp}
theorem flat_reads {h : Heap} {v : V} {u : Value} {d : D} {x : PyData} (hd : Dt K H v d) (hx : flatPy d = some x) (r : RelV v u) : Reads h u x [] := by
  cases hd with
  | non => cases hx; cases (show u = Value.none from r); exact .none
  | bl b => cases hx; cases (show u = Value.bool b from r); exact .bool b
  | int i => cases hx; obtain ⟨t, rfl⟩ := (show ∃ t, u = Value.int i t from r); exact .int i t
  | str x => cases hx; obtain ⟨t, rfl⟩ := (show ∃ t, u = Value.str x t from r); exact .str x t
  | lst _ _ => cases hx
  | fro _ _ => cases hx
  | tup _ _ => cases hx
  | dic _ _ => cases hx
  | ins _ _ => cases hx
  | exn _ _ _ => cases hx
theorem key_reads {h : Heap} {k : Key} {u : Value} (e : keyIs k u = true) : Reads h u (kPy k) [] := by
  rcases keyIs_shape e with ⟨i, t, rfl, rfl⟩ | ⟨x, t, rfl, rfl⟩
  · exact .int i t
  · exact .str x t
theorem kv_reads {h : Heap} : ∀ {es : List DictEntry} {vs : List (Key × Value)} {kvs : List (Key × V)} {ds : List (Key × D)} {ps : List (PyData × PyData)}, Pairs (mixKind P w) es vs → KV kvs vs → DtKv K H kvs ds → dicPy ds = some ps →
    ReadsAll h (es.map (·.key)) (ps.map (·.1)) [] ∧ ReadsAll h (es.map (·.val)) (ps.map (·.2)) []
  | _, _, _, _, _, .nil, hk, hd, hp => by
    cases hk
    cases hd
    cases hp
    exact ⟨.nil, .nil⟩
  | _, _, _, _, _, .cons h1 h2 t, hk, hd, hp => by
    cases hk with
    | cons k1 kt =>
      cases hd with
      | cons d1 dt =>
        rw [dicPy] at hp
        split at hp
        · rename_i x xs e1 e2
          cases hp
          obtain ⟨a, b⟩ := kv_reads t kt dt e2
          obtain ⟨k2, k3⟩ := k1
          refine ⟨.cons (as := []) (bs := []) ?_ a, .cons (as := []) (bs := []) (flat_reads d1 e1 (show RelV _ (DictEntry.val _) by rw [h2]; exact k3)) b⟩
          have k2' := k2
          dsimp only at k2'
          rw [k2']
          exact key_reads h1
        · cases hp
end
/-- the written form of a datum -/
def reprD (d : D) : Option Str := match d with
  | .dic kvs => (dicPy kvs).bind fun ps => if (PyData.dict ps).showable = true ∧ (PyData.dict ps).depth ≤ 60 ∧ (PyData.dict ps).shown.length ≤ sizeLine then some (PyData.dict ps).shown else none
  | .non => some "None"
  | .bl b => some (if b then "True" else "False")
  | .int i => if i.natAbs < 10 ^ 4300 then some (toString i) else none
  | .str x => if (reprText x).length ≤ 1000000 then some (reprText x) else none
  | d => d.py.bind fun e => if e.showable = true ∧ e.depth ≤ 60 ∧ e.shown.length ≤ sizeLine then some e.shown else none
def fRepr (d : D) : Option D := (reprD d).map .str
/-- what repr asks of a value, and gives -/
def rRepr (K : PySem.W.Frag) : V → Hp → VK → Prop := fun x H Q => ∃ d t, Dt K H x d ∧ reprD d = some t ∧ Q (.str t) H
theorem ud_repr {K : PySem.W.Frag} : UnD K (rRepr K) fRepr := by
  intro H v x z Q hv h k
  obtain ⟨t, h1, h2⟩ := Option.map_eq_some_iff.mp h
  subst h2
  exact ⟨x, t, hv, h1, k _ fun S => .str _⟩
theorem call_reprD {X : Cx} (hgd : X.A.guards = some []) (hc : X.calm = true) (hu : X.A.units + 64 < cLine) (hnd : X.base.NoDigits) : CallR X (.builtin "repr") (fun xs H Q => ∃ v, xs = [v] ∧ rRepr X.K v H Q) := by
  intro pins s σ H xs us Q I r h
  obtain ⟨v, rfl, d, t, hd, hr, q⟩ := h
  obtain ⟨u, rfl, ru⟩ := vals1 r
  have big : ∀ (e : PyData), d.py = some e → (e.showable = true ∧ e.depth ≤ 60 ∧ e.shown.length ≤ sizeLine) → e.shown = t → (∃ a, u = .ref a) → wpAny (model X.prog X.w) X.A (call (.builtin "repr") [u]) (EP X pins σ Q) X.xe s := fun e he hs ht ha => by
    obtain ⟨a, rfl⟩ := ha
    obtain ⟨as, rd⟩ := Dp.reads I e v _ (hd.dp he) ru
    refine repr_of_reads' rd hs.1 (PyData.noDict_hsm (py_noDict he)) hgd (by have := hs.2.1; omega) (fun _ _ z => z) (fun h' tk1 tk2 hk => ?_) hs.2.2
    rw [ht]
    exact ⟨.str t, H, I.kept (t' := tk2) hk, ⟨_, rfl⟩, q⟩
  have obj : ∀ {dd : D}, d = dd → ((dd.py.bind fun e => if e.showable = true ∧ e.depth ≤ 60 ∧ e.shown.length ≤ sizeLine then some e.shown else none) = some t) → (∃ a, u = .ref a) → wpAny (model X.prog X.w) X.A (call (.builtin "repr") [u]) (EP X pins σ Q) X.xe s := fun {dd} e0 h2 ha => by
    subst e0
    obtain ⟨e, h3, h4⟩ := Option.bind_eq_some_iff.mp h2
    by_cases hz : e.showable = true ∧ e.depth ≤ 60 ∧ e.shown.length ≤ sizeLine
    · rw [if_pos hz] at h4
      exact big e h3 hz (Option.some.inj h4) ha
    · rw [if_neg hz] at h4
      cases h4
  cases hd with
  | non =>
    cases (show u = Value.none from ru)
    cases hr
    exact PySem.P.repr_of_none ⟨.str _, H, I.tok _, ⟨_, rfl⟩, q⟩
  | bl b =>
    cases (show u = Value.bool b from ru)
    cases hr
    exact PySem.P.repr_of_bool ⟨.str _, H, I.tok _, ⟨_, rfl⟩, q⟩
  | str x =>
    obtain ⟨tk, rfl⟩ := (show ∃ tk, u = Value.str x tk from ru)
    have hr' : (if (reprText x).length ≤ 1000000 then some (reprText x) else none) = some t := hr
    by_cases hz : (reprText x).length ≤ 1000000
    · rw [if_pos hz] at hr'
      cases hr'
      exact PySem.P.repr_of_str ⟨.str _, H, I.tok _, ⟨_, rfl⟩, q⟩ (size_ok hz)
    · rw [if_neg hz] at hr'
      cases hr'
  | int i =>
    obtain ⟨tk, rfl⟩ := (show ∃ tk, u = Value.int i tk from ru)
    have hr' : (if i.natAbs < 10 ^ 4300 then some (toString i : Str) else none) = some t := hr
    by_cases hz : i.natAbs < 10 ^ 4300
    · rw [if_pos hz] at hr'
      cases hr'
      refine call_repr_slot (by omega) (typeIs_int _ _ _) PySem.F.slot_int_repr.toG ?_
      refine call_int_repr_or (A := X.A.in1) (I.ok.hd hc) (Heap.NoDigits.keeps hnd I.bk) (fun _ => ⟨_, _, rfl, .str _, H, I.tok _, ⟨_, rfl⟩, q⟩) fun hge => absurd hz (Nat.not_lt.mpr hge)
    · rw [if_neg hz] at hr'
      cases hr'
  | lst a b => cases ru; exact obj rfl hr ⟨_, rfl⟩
  | fro a b => cases ru; exact obj rfl hr ⟨_, rfl⟩
  | tup a b => cases ru; exact obj rfl hr ⟨_, rfl⟩
  | dic a b =>
    cases ru
    obtain ⟨ps, h3, h4⟩ := Option.bind_eq_some_iff.mp (show (dicPy _).bind _ = some t from hr)
    by_cases hz : (PyData.dict ps).showable = true ∧ (PyData.dict ps).depth ≤ 60 ∧ (PyData.dict ps).shown.length ≤ sizeLine
    · rw [if_pos hz] at h4
      obtain ⟨_, ns, vs, kv, o, es, ep, ho, hx, hdt, _, hpr, _⟩ := dk_of I.hok a
      obtain ⟨r1, r2⟩ := kv_reads (h := s.heap) hpr kv b h3
      have rd := Reads.dict ho hx.1 hdt r1 r2
      refine repr_of_reads' rd hz.1 (fun _ hm => ?_) hgd (by have := hz.2.1; omega) (fun _ _ z => z) (fun h' tk1 tk2 hk => ?_) hz.2.2
      · have hm' : sysModules ∈ [_] := hm
        rw [List.mem_singleton] at hm'
        exact absurd hm'.symm (beq_eq_false_iff_ne.mp ns)
      · rw [Option.some.inj h4]
        exact ⟨.str t, H, I.kept (t' := tk2) hk, ⟨_, rfl⟩, q⟩
    · rw [if_neg hz] at h4
      cases h4
  | ins a b => cases ru; exact obj rfl hr ⟨_, rfl⟩
  | exn a b c => cases ru; exact obj rfl hr ⟨_, rfl⟩
end DL
set_option Elab.async false
set_option linter.all false
set_option maxRecDepth 100000
set_option maxHeartbeats 4000000
/-! DL, part h: the rules in the form that the printed derivations use. -/
namespace DL
open PySem PySem.Spec PyProof.Rows L2

section
variable {X : Cx} {W : WX} {p : Bool} {k n : Nat} {x : Str} {ps : List Str} {pp pos : Pos} {e a b tg : Expr} {es : List Expr} {t : TA} {te ta tb : TE} {de da db : Ev → Rz D} {dl dn : Ev → Rz (List D)} {F : List D → Fz} {FI : List D → List D → Iz}
/-! ### calls of defs -/
theorem cq (Df : Def X.prog X.w X.K X.mg X.base k x ps (spP X.K n F)) (hgd : X.A.guards = some []) (hr : Room k X.A) (tk : Takes X W) (ha : QA X W p (e :: es) t dl) [Len dl n] (hg : Gl X x := by rfl)
    (hdb : (x == ("__debug__" : Str)) = false := by decide) (he : starEach (e :: es) X.env = (false, eval e X.env) :: starEach es X.env := by rfl) (hpl : (backTo pos (starEach es X.env)).any (·.1) = false := by rfl) :
    QE X W p (.Call (.Name x pp) (e :: es) [] pos) (tCalG (spP X.K n F) [] W t) (dCall F dl) := qe_call ha (pe_def Df hgd hr tk ha.pa hg hdb he hpl)
theorem cqN (Df : Def X.prog X.w X.K X.mg X.base k x ps (spP X.K n F)) (hgd : X.A.guards = some []) (hr : Room k X.A) (tk : Takes X W) (ha : QA X W p (e :: es) t dl) [Len dl n] (hg : Gl X x := by rfl)
    (hdb : (x == ("__debug__" : Str)) = false := by decide) (he : starEach (e :: es) X.env = (false, eval e X.env) :: starEach es X.env := by rfl) (hpl : (backTo pos (starEach es X.env)).any (·.1) = false := by rfl) :
    QN X W p (.Call (.Name x pp) (e :: es) [] pos) (tCalG (spP X.K n F) [] W t) (dCallN F dl) := qn_call ha (pe_def Df hgd hr tk ha.pa hg hdb he hpl)
theorem cqR (Df : Def X.prog X.w X.K X.mg X.base k x ps (spP X.K n F)) (hgd : X.A.guards = some []) (hr : Room k X.A) (tk : Takes X W) (ha : QAR X W (e :: es) t dl) [StillA dl] [Len dl n] (hg : Gl X x := by rfl)
    (hdb : (x == ("__debug__" : Str)) = false := by decide) (he : starEach (e :: es) X.env = (false, eval e X.env) :: starEach es X.env := by rfl) (hpl : (backTo pos (starEach es X.env)).any (·.1) = false := by rfl) :
    QE X W p (.Call (.Name x pp) (e :: es) [] pos) (tCalG (spP X.K n F) [] W t) (dCallR F dl) := qe_callR ha (pe_def Df hgd hr tk ha.pa hg hdb he hpl)
theorem cqRN (Df : Def X.prog X.w X.K X.mg X.base k x ps (spP X.K n F)) (hgd : X.A.guards = some []) (hr : Room k X.A) (tk : Takes X W) (ha : QAR X W (e :: es) t dl) [StillA dl] [Len dl n] (hg : Gl X x := by rfl)
    (hdb : (x == ("__debug__" : Str)) = false := by decide) (he : starEach (e :: es) X.env = (false, eval e X.env) :: starEach es X.env := by rfl) (hpl : (backTo pos (starEach es X.env)).any (·.1) = false := by rfl) :
    QN X W p (.Call (.Name x pp) (e :: es) [] pos) (tCalG (spP X.K n F) [] W t) (dCallRN F dl) := qn_callR ha (pe_def Df hgd hr tk ha.pa hg hdb he hpl)
theorem cq0 (Df : Def X.prog X.w X.K X.mg X.base k x ps (spP X.K 0 F)) (hgd : X.A.guards = some []) (hr : Room k X.A) (tk : Takes X W) (hg : Gl X x := by rfl) (hdb : (x == ("__debug__" : Str)) = false := by decide) :
    QE X W p (.Call (.Name x pp) [] [] pos) (tCalG (spP X.K 0 F) [] W tNil) (dCall F dNil) := qe_call0 (pe_def0 Df hgd hr tk hg hdb)
theorem cqI (i : Nat) (Df : Def X.prog X.w X.K X.mg X.base k x ps (spI X.K (n + 1) FI)) (hgd : X.A.guards = some []) (hr : Room k X.A) (tk : Takes X W) (ha : QA X W p es t dl) [Len dl n] (ha0 : PE X e (tVar i)) (hg : Gl X x := by rfl)
    (hdb : (x == ("__debug__" : Str)) = false := by decide) (he : starEach (e :: es) X.env = (false, eval e X.env) :: starEach es X.env := by rfl) (hpl : (backTo pos (starEach es X.env)).any (·.1) = false := by rfl) :
    QE X W false (.Call (.Name x pp) (e :: es) [] pos) (tCalG (spI X.K (n + 1) FI) [] W (tCons (tVar i) t)) (dCallI i FI dl) := qe_callI i ha (pe_def Df hgd hr tk (pa_cons ha0 ha.pa he) hg hdb he hpl)
theorem cqIN (i : Nat) (Df : Def X.prog X.w X.K X.mg X.base k x ps (spI X.K (n + 1) FI)) (hgd : X.A.guards = some []) (hr : Room k X.A) (tk : Takes X W) (ha : QA X W p es t dl) [Len dl n] (ha0 : PE X e (tVar i)) (hg : Gl X x := by rfl)
    (hdb : (x == ("__debug__" : Str)) = false := by decide) (he : starEach (e :: es) X.env = (false, eval e X.env) :: starEach es X.env := by rfl) (hpl : (backTo pos (starEach es X.env)).any (·.1) = false := by rfl) :
    QN X W false (.Call (.Name x pp) (e :: es) [] pos) (tCalG (spI X.K (n + 1) FI) [] W (tCons (tVar i) t)) (dCallIN i FI dl) := qn_callI i ha (pe_def Df hgd hr tk (pa_cons ha0 ha.pa he) hg hdb he hpl)
theorem cqT (Df : Def X.prog X.w X.K X.mg X.base k x ps (spI X.K (n + 1) FI)) (hgd : X.A.guards = some []) (hr : Room k X.A) (tk : Takes X W) (h0 : QN X W p e te dn) (ha : QA X W true es t dl) [Len dl n] [StillA dl] (hg : Gl X x := by rfl)
    (hdb : (x == ("__debug__" : Str)) = false := by decide) (he : starEach (e :: es) X.env = (false, eval e X.env) :: starEach es X.env := by rfl) (hpl : (backTo pos (starEach es X.env)).any (·.1) = false := by rfl) :
    QE X W false (.Call (.Name x pp) (e :: es) [] pos) (tCalG (spI X.K (n + 1) FI) [] W (tCons te t)) (dCallT FI dn dl) := qe_callT h0 ha (pe_def Df hgd hr tk (pa_cons h0.pe ha.pa he) hg hdb he hpl)

/-! ### keywords, written the other way about -/
structure QK (X : Cx) (W : WX) (p : Bool) (kws : List Keyword) (ta : TA) (da : Ev → Rz (List D)) : Prop where
  pk : PK X kws ta
  sim : ∀ F, SimA X.K F W p ta da
theorem qk_nil : QK X W p [] tNil dNil := ⟨pk_nil, qa_nil (X := X) (W := W) |>.sim⟩
theorem qk_cons {nm : Option Str} {kpos : Pos} {kws : List Keyword} (h : QE X W p e te de) (hr : QK X W p kws t dl) : QK X W p (⟨nm, e, kpos⟩ :: kws) (tCons te t) (dCons de dl) := by
  refine ⟨pk_cons h.pe hr.pk, fun F S σ H env Q E q => (h.sim F) S σ H env _ E (Rz.imp (Rz.bind_holds q) (fun x e1 q1 S1 H1 v s1 t1 E1 d1 => ?_) fun _ _ _ z => z)⟩
  exact (hr.sim F) S1 σ H1 e1 _ E1 (Rz.imp (Rz.bind_holds q1) (fun xs e2 k S2 H2 vs s2 t2 E2 ds => k S2 H2 _ (s1.trans s2) (tr2 t1 t2) E2 (.cons (d1.mono s2) ds)) fun _ _ _ z => z.mono s1)
/-- a def that is called by its parameters' names, the last one first -/
structure DefR (P : Program) (w : World) (K : PySem.W.Frag) (mg : Str → Option Value) (base : Heap) (k : Nat) (x : Str) (ps : List Str) (sp : Sp) : Prop where
  ex : ∃ f fd, FnG P w K mg base k f fd ps sp ∧ mg x = some (.ref f) ∧ PySem.W.keepIn K (.ref f) = true ∧ ∀ (s : Shared) (us : List Value), us.length = ps.length → BindsTo s fd ⟨[], ps.reverse.zip us⟩ (ps.zip us.reverse)
/-- the arguments' order -/
def tRevA (t : TA) : TA := fun σ H Q => t σ H fun vs H1 => Q vs.reverse H1
def dRevA (d : Ev → Rz (List D)) (e : Ev) : Rz (List D) := (d e).bind fun xs e1 => .ok xs.reverse e1
instance len_rev {d : Ev → Rz (List D)} {n : Nat} [h : Len d n] : Len (dRevA d) n := ⟨fun env x e' q => by
  obtain ⟨y, e1, h1, h2⟩ := Rz.bind_ok q
  cases h2
  rw [List.length_reverse]
  exact h.at_ _ _ _ h1⟩
instance still_rev {d : Ev → Rz (List D)} [h : StillA d] : StillA (dRevA d) := ⟨fun env x e' q => by
  obtain ⟨y, e1, h1, h2⟩ := Rz.bind_ok q
  cases h2
  exact h.at_ _ _ _ h1⟩
theorem vals_rev : ∀ {vs : List V} {us : List Value}, Vals vs us → Vals vs.reverse us.reverse
  | _, _, .nil => .nil
  | _, _, .cons a t => by
    rw [List.reverse_cons, List.reverse_cons]
    exact Vals.append (vals_rev t) (.cons a .nil)
theorem pe_defR {sp : Sp} {kws : List Keyword} (Df : DefR X.prog X.w X.K X.mg X.base k x ps sp) (hgd : X.A.guards = some []) (hr : Room k X.A) (tk : Takes X W) (ha : PK X kws t) (hg : Gl X x) (hall : (backToKw pos (keywordEach kws X.env)).all (·.1.isSome) = true)
    (hks : (backToKw pos (keywordEach kws X.env)).filterMap (·.1) = ps.reverse) (hpl : ((backTo pos (starEach [] X.env)).any (·.1) || (backToKw pos (keywordEach kws X.env)).any (·.1.isNone)) = false) (hdb : (x == ("__debug__" : Str)) = false) :
    PE X (.Call (.Name x pp) [] kws pos) (tCalG sp [] W (tRevA t)) := by
  obtain ⟨f, fd, F, hm, hk, hb⟩ := Df.ex
  constructor
  intro pins s σ H Q I h
  refine wpAny_Call_Name_kw (ld_glob I hg hm ?_ hdb)
  refine PySem.W.callWith_KW0 (h₀ := X.base) I.ok.mod.kin hk hall ?_ hpl
  refine thn (ha.run pos pins s σ H _ I h) fun ws s2 hh => ?_
  obtain ⟨zs, H2, I2, rz, q2⟩ := hh
  have q3 : sp (zs.reverse ++ []) H2 Q (WE W σ) := q2
  rw [List.append_nil] at q3
  have hl := F.len _ _ _ _ q3
  refine ⟨I2.kIn, ?_⟩
  rw [hks]
  exact runG F hgd hr tk I2 (hb s2 ws (by rw [← rz.length, ← hl, List.length_reverse])) (vals_rev rz) q3
theorem sim_rev {K : PySem.W.Frag} {Fr : Fm} (h : SimA K Fr W p t dl) : SimA K Fr W p (tRevA t) (dRevA dl) := fun S σ H env Q E q =>
  h S σ H env _ E (Rz.imp (Rz.bind_holds q) (fun xs e1 q1 S1 H1 vs s1 t1 E1 d1 => q1 S1 H1 _ s1 t1 E1 d1.reverse) fun _ _ _ z => z)
theorem cqK {kws : List Keyword} (Df : DefR X.prog X.w X.K X.mg X.base k x ps (spP X.K n F)) (hgd : X.A.guards = some []) (hr : Room k X.A) (tk : Takes X W) (ha : QK X W p kws t dl) [Len dl n] (hg : Gl X x := by rfl) (hall : (backToKw pos (keywordEach kws X.env)).all (·.1.isSome) = true := by rfl)
    (hks : (backToKw pos (keywordEach kws X.env)).filterMap (·.1) = ps.reverse := by rfl) (hpl : ((backTo pos (starEach [] X.env)).any (·.1) || (backToKw pos (keywordEach kws X.env)).any (·.1.isNone)) = false := by rfl) (hdb : (x == ("__debug__" : Str)) = false := by decide) :
    QE X W p (.Call (.Name x pp) [] kws pos) (tCalG (spP X.K n F) [] W (tRevA t)) (dCall F (dRevA dl)) := ⟨pe_defR Df hgd hr tk ha.pk hg hall hks hpl hdb, fun Fr => sim_call (sim_rev (ha.sim Fr))⟩

/-! ### built-ins -/
section
theorem b_len (hm : X.mg x = none) (ha : QA X W p [e] t dl) (hg : Gl X x := by rfl) (hv : bootBuiltins x = some (.builtin "len") := by decide +kernel) (hn : x ≠ "__name__" := by decide) (hdb : (x == ("__debug__" : Str)) = false := by decide)
    (he : starEach [e] X.env = (false, eval e X.env) :: starEach [] X.env := by rfl) : QE X W p (.Call (.Name x pp) [e] [] pos) (tCB (rLenA X.K) t) (dBi bLen dl) := qe_bi (id := "len") bd_len ha (pe_callB call_lenA hg hm hv ha.pa hn hdb he rfl)
theorem b_lenR (hm : X.mg x = none) (ha : QAR X W [e] t dl) [StillA dl] (hg : Gl X x := by rfl) (hv : bootBuiltins x = some (.builtin "len") := by decide +kernel) (hn : x ≠ "__name__" := by decide) (hdb : (x == ("__debug__" : Str)) = false := by decide)
    (he : starEach [e] X.env = (false, eval e X.env) :: starEach [] X.env := by rfl) : QE X W p (.Call (.Name x pp) [e] [] pos) (tCB (rLenA X.K) t) (dBi bLen dl) := qe_biR bd_len ha (pe_callB call_lenA hg hm hv ha.pa hn hdb he rfl)
theorem b_sum (hm : X.mg x = none) (hc : X.calm = true) (ha : QA X W p [e] t dl) (hg : Gl X x := by rfl) (hv : bootBuiltins x = some (.builtin "sum") := by decide +kernel) (hn : x ≠ "__name__" := by decide) (hdb : (x == ("__debug__" : Str)) = false := by decide)
    (he : starEach [e] X.env = (false, eval e X.env) :: starEach [] X.env := by rfl) : QE X W p (.Call (.Name x pp) [e] [] pos) (tCB (rSum X.K) t) (dBi bSum dl) := qe_bi (id := "sum") bd_sum ha (pe_callB (cr_sum hc) hg hm hv ha.pa hn hdb he rfl)
theorem b_max2 (hm : X.mg x = none) (hc : X.calm = true) (ha : QA X W p [a, b] t dl) (hg : Gl X x := by rfl) (hv : bootBuiltins x = some (.builtin "max") := by decide +kernel) (hn : x ≠ "__name__" := by decide) (hdb : (x == ("__debug__" : Str)) = false := by decide)
    (he : starEach [a, b] X.env = (false, eval a X.env) :: starEach [b] X.env := by rfl) (hpl : (backTo pos (starEach [b] X.env)).any (·.1) = false := by rfl) : QE X W p (.Call (.Name x pp) [a, b] [] pos) (tCB (fun xs H Q => ∃ i j, xs = [.int i, .int j] ∧ Q (.int (if j > i then j else i)) H) t) (dBi bMax2 dl) :=
  qe_bi (id := "max") bd_max2 ha (pe_callB (call_max2 hc) hg hm hv ha.pa hn hdb he hpl)
theorem b_min2 (hm : X.mg x = none) (hc : X.calm = true) (ha : QA X W p [a, b] t dl) (hg : Gl X x := by rfl) (hv : bootBuiltins x = some (.builtin "min") := by decide +kernel) (hn : x ≠ "__name__" := by decide) (hdb : (x == ("__debug__" : Str)) = false := by decide)
    (he : starEach [a, b] X.env = (false, eval a X.env) :: starEach [b] X.env := by rfl) (hpl : (backTo pos (starEach [b] X.env)).any (·.1) = false := by rfl) : QE X W p (.Call (.Name x pp) [a, b] [] pos) (tCB (fun xs H Q => ∃ i j, xs = [.int i, .int j] ∧ Q (.int (if j < i then j else i)) H) t) (dBi bMin2 dl) :=
  qe_bi (id := "min") bd_min2 ha (pe_callB (call_min2 hc) hg hm hv ha.pa hn hdb he hpl)
theorem b_int (hm : X.mg x = none) (ha : QA X W p [e] t dl) (hg : Gl X x := by rfl) (hv : bootBuiltins x = some (.type "int") := by decide +kernel) (hn : x ≠ "__name__" := by decide) (hdb : (x == ("__debug__" : Str)) = false := by decide)
    (he : starEach [e] X.env = (false, eval e X.env) :: starEach [] X.env := by rfl) : QE X W p (.Call (.Name x pp) [e] [] pos) (tCB (fun xs H Q => (∃ i, xs = [.int i] ∧ Q (.int i) H) ∨ ∃ k, xs = [.bl k] ∧ Q (.int (if k then 1 else 0)) H) t) (dBi bInt dl) :=
  qe_bi (id := "int") bd_int ha (pe_callTy call_int1 hg hm hv ha.pa hn hdb he rfl)
theorem b_list (hm : X.mg x = none) (ha : QA X W p [e] t dl) (hg : Gl X x := by rfl) (hv : bootBuiltins x = some (.type "list") := by decide +kernel) (hn : x ≠ "__name__" := by decide) (hdb : (x == ("__debug__" : Str)) = false := by decide)
    (he : starEach [e] X.env = (false, eval e X.env) :: starEach [] X.env := by rfl) : QN X W p (.Call (.Name x pp) [e] [] pos) (tCB (rListOf X.K) t) (dListOf dl) := qn_listOf ha (pe_callTy call_list_of hg hm hv ha.pa hn hdb he rfl)
theorem b_listSee (i : Nat) (hm : X.mg x = none) (ha : PE X e (tVar i)) (hg : Gl X x := by rfl) (hv : bootBuiltins x = some (.type "list") := by decide +kernel) (hn : x ≠ "__name__" := by decide) (hdb : (x == ("__debug__" : Str)) = false := by decide)
    (he : starEach [e] X.env = (false, eval e X.env) :: starEach [] X.env := by rfl) : QN X W p (.Call (.Name x pp) [e] [] pos) (tCB (rListOf X.K) (tCons (tVar i) tNil)) (dListSee i) := qn_listSee i (pe_callTy call_list_of hg hm hv (pa_cons ha pa_nil he) hn hdb he rfl)
theorem b_isi (n : String) (hm : X.mg x = none) (ha : QE X W p a ta da) (hc : PE X b (tC (.ty n))) (hg : Gl X x := by rfl) (hv : bootBuiltins x = some (.builtin "isinstance") := by decide +kernel) (hn : x ≠ "__name__" := by decide) (hdb : (x == ("__debug__" : Str)) = false := by decide)
    (he : starEach [a, b] X.env = (false, eval a X.env) :: starEach [b] X.env := by rfl) (he2 : starEach [b] X.env = (false, eval b X.env) :: starEach [] X.env := by rfl) (hpl : (backTo pos (starEach [b] X.env)).any (·.1) = false := by rfl) :
    QE X W p (.Call (.Name x pp) [a, b] [] pos) (tCB (rIsi X.K) (tCons ta (tCons (tC (.ty n)) tNil))) (dUn (fIsi n) da) := qe_isi n ha (pe_callB call_isi hg hm hv (pa_cons ha.pe (pa_cons hc pa_nil he2) he) hn hdb he hpl)
theorem b_isiR (n : String) (hm : X.mg x = none) (ha : QR X W a ta da) [Still da] (hc : PE X b (tC (.ty n))) (hg : Gl X x := by rfl) (hv : bootBuiltins x = some (.builtin "isinstance") := by decide +kernel) (hn : x ≠ "__name__" := by decide) (hdb : (x == ("__debug__" : Str)) = false := by decide)
    (he : starEach [a, b] X.env = (false, eval a X.env) :: starEach [b] X.env := by rfl) (he2 : starEach [b] X.env = (false, eval b X.env) :: starEach [] X.env := by rfl) (hpl : (backTo pos (starEach [b] X.env)).any (·.1) = false := by rfl) :
    QE X W p (.Call (.Name x pp) [a, b] [] pos) (tCB (rIsi X.K) (tCons ta (tCons (tC (.ty n)) tNil))) (dUn (fIsi n) da) := qe_isiR n ha (pe_callB call_isi hg hm hv (pa_cons ha.pe (pa_cons hc pa_nil he2) he) hn hdb he hpl)
abbrev rRep1 (K : PySem.W.Frag) : List V → Hp → VK → Prop := fun xs H Q => ∃ v, xs = [v] ∧ rRepr K v H Q
theorem ud_rep1 {K : PySem.W.Frag} : UnD K (fun x H Q => rRep1 K [x] H Q) fRepr := fun H v x z Q hv h k => ⟨v, rfl, ud_repr H v x z Q hv h k⟩
theorem b_repr (hm : X.mg x = none) (hgd : X.A.guards = some []) (hc : X.calm = true) (hu : X.A.units + 64 < cLine) (hnd : X.base.NoDigits) (ha : QE X W p a ta da) (hg : Gl X x := by rfl) (hv : bootBuiltins x = some (.builtin "repr") := by decide +kernel) (hn : x ≠ "__name__" := by decide) (hdb : (x == ("__debug__" : Str)) = false := by decide)
    (he : starEach [a] X.env = (false, eval a X.env) :: starEach [] X.env := by rfl) : QE X W p (.Call (.Name x pp) [a] [] pos) (tCB (rRep1 X.K) (tCons ta tNil)) (dUn fRepr da) :=
  ⟨pe_callB (call_reprD hgd hc hu hnd) hg hm hv (pa_cons ha.pe pa_nil he) hn hdb he rfl, fun F => sim_un ud_rep1 (ha.sim F)⟩
theorem b_reprR (hm : X.mg x = none) (hgd : X.A.guards = some []) (hc : X.calm = true) (hu : X.A.units + 64 < cLine) (hnd : X.base.NoDigits) (ha : QR X W a ta da) [Still da] (hg : Gl X x := by rfl) (hv : bootBuiltins x = some (.builtin "repr") := by decide +kernel) (hn : x ≠ "__name__" := by decide) (hdb : (x == ("__debug__" : Str)) = false := by decide)
    (he : starEach [a] X.env = (false, eval a X.env) :: starEach [] X.env := by rfl) : QE X W p (.Call (.Name x pp) [a] [] pos) (tCB (rRep1 X.K) (tCons ta tNil)) (dUn fRepr da) :=
  ⟨pe_callB (call_reprD hgd hc hu hnd) hg hm hv (pa_cons ha.pe pa_nil he) hn hdb he rfl, fun F => sim_unR ud_rep1 (ha.sim F) (Still.at_)⟩
end
/-! ### walks -/
theorem i_list (h : QE X W p e te de) : QI X W p tg e (iList X.K te) (dItems de) := qi_list h (pi_list h.pe)
theorem i_tup (h : QE X W p e te de) : QI X W p tg e (iTup X.K te) (dItemsT de) := qi_tup h (pi_tup h.pe)
theorem i_rng1 (hm : X.mg "range" = none) (h : QA X W p [a] t dl) (hg : Gl X "range" := by rfl) (hs : starEach [a] X.env = [(false, eval a X.env)] := by rfl) : QI X W p tg (.Call (.Name "range" pp) [a] [] pos) (iRng1 t) (dRng1 dl) := qi_rng1 h (pi_range1 hg hm h.pa hs)
theorem i_rng2 (hm : X.mg "range" = none) (h : QA X W p [a, b] t dl) (hg : Gl X "range" := by rfl) (hs : starEach [a, b] X.env = [(false, eval a X.env), (false, eval b X.env)] := by rfl) (hs2 : starEach [b] X.env = [(false, eval b X.env)] := by rfl) :
    QI X W p tg (.Call (.Name "range" pp) [a, b] [] pos) (iRng2 t) (dRng2 dl) := qi_rng2 h (pi_range2 hg hm h.pa hs hs2)
theorem i_enum (hm : X.mg "enumerate" = none) {elts : List Expr} {kk : Nat} {tpos : Pos} (h : QA X W p [e] t dl) (hg : Gl X "enumerate" := by rfl) (hs : starEach [e] X.env = [(false, eval e X.env)] := by rfl) :
    QI X W p (.Tuple elts kk tpos) (.Call (.Name "enumerate" pp) [e] [] pos) (iEnum X.K t) (dEnum dl) := qi_enum h (pi_enum hg hm h.pa hs)
/-! ### x = [.. for ..] on one row -/
theorem s_lc {i : Nat} {y : Str} {py spos : Pos} {elt iter : Expr} {ifs : List Expr} {scope : Scope} {own : List (Str × Nat)} {wi : TI} {di : Ev → Rz (List D)} {js : List Nat} {g : TG} {dg : D → Ev → Option Ev} {tt : TT} {dt : Ev → Rz Bool} (hc : X.calm = true) (hN : X.N.Nodup) (hy : X.N[i]? = some y)
    (hyl : X.env.scope.names.lookup y = some .local) (hsw : swapsWith (.ListComp elt [⟨tg, iter, ifs, 0⟩] scope pos) (some (.Name y py)) spos.line X.env = pure true)
    (hi : QI X W p tg iter wi di) (ok : BlkOk X.N X.env.scope scope own)
    (hg : ∀ (s : Shared) (H : Hp) (C : Addr) (cl : List (Str × Addr)) (fp : List Addr), QG (X.blk s H scope (compEnvC scope cl C X.env) fp) tg js g dg)
    (ht : ∀ (s : Shared) (H : Hp) (C : Addr) (cl : List (Str × Addr)) (fp : List Addr), QTs (X.blk s H scope (compEnvC scope cl C X.env) fp) W0 p ifs tt dt)
    (he : ∀ (s : Shared) (H : Hp) (C : Addr) (cl : List (Str × Addr)) (fp : List Addr), QE (X.blk s H scope (compEnvC scope cl C X.env) fp) W0 p elt te de) (hj : ∀ j ∈ js, j ∈ own.map (·.2))
    (hs : ∀ x, foldedSetIterable iter X.env x = pure x := by intro _; rfl) :
    QS X W (.Assign [.Name y py] (.ListComp elt [⟨tg, iter, ifs, 0⟩] scope pos) spos) (tAsg (tLc wi g tt te (own.map (·.2))) (gName i)) (dSet i (dOfN (dLc di dg dt de (own.map (·.2))))) := by
  refine ⟨ps_setLc hc hN hy hyl hsw hi.pi ok (fun s H C cl fp => (hg s H C cl fp).pg) (fun s H C cl fp => (ht s H C cl fp).pts) (fun s H C cl fp => (he s H C cl fp).pe) hs, fun Fr => ?_⟩
  have n := sim_lc (W := W) (hi.sim Fr) (hg X.s_0 X.H_0 0 [] []).sim (ht X.s_0 X.H_0 0 [] []).sim (he X.s_0 X.H_0 0 [] []).sim hj
  intro S σ H env D E q
  refine n S σ H env _ E ?_
  have q' := toS_holds (α := DL.D) (r := dOfN (dLc di dg dt de (own.map (·.2))) env) (k := fun d e1 => os (put i (.dat d) e1)) (S := S) q (σ := σ)
  refine Rz.imp (Rz.bind_holds q') (fun xs e1 q1 S1 H1 r s1 t1 E1 N1 => ?_) fun _ _ _ z => z
  obtain ⟨e2, ep, k⟩ := os_holds (show (os (put i (.dat (.lst xs)) e1)).holds X.K Fr W S D from q1)
  obtain ⟨S2, s2, _, E2, hd⟩ := N1.stand E1
  exact k S2 _ H1 (s1.trans s2) (E2.putDat ep hd)
end
end DL
set_option Elab.async false
set_option linter.all false
set_option maxRecDepth 100000
set_option maxHeartbeats 4000000
/-! DL, part i: more of the printed forms, each part named once. -/
namespace DL
open PySem PySem.Spec PyProof.Rows L2

section
variable {X : Cx} {W : WX} {p : Bool} {x y : Str} {pp pos np apos cpos tpos : Pos} {a b e j : Expr} {ta tb te tj : TE} {da db de dj : Ev → Rz D} {da' db' : Ev → Rz (List D)}
def dRetNone (e : Ev) : Rs := .rt .non e
theorem qs_retNone : QS X W (.Return none pos) tRetN dRetNone := ⟨ps_retN, fun F S σ H env D E q => q S σ H .non (Same.refl _) E .non⟩
theorem s_append (i : Nat) (h : QE X W p e te de) (hx : PE X (.Name x np) (tVar i))
    (hbase : attributeBase (.Name x np) "append" X.env (eval (.Name x np) X.env) = eval (.Name x np) X.env := by rfl)
    (hfew : ((backTo cpos (starEach [e] X.env)).all (fun x => !x.1) && (backToKw cpos (keywordEach [] X.env)).all (fun x => x.1.isSome) && decide ([e].length + ([] : List Keyword).length + (if ([] : List Keyword).isEmpty then 0 else 1) < 30)) = true := by rfl)
    (hline : (apos.endLine == cpos.line) = true := by rfl) (hs : starEach [e] X.env = (false, eval e X.env) :: starEach [] X.env := by rfl) (hplain : (backTo cpos (starEach [] X.env)).any (·.1) = false := by rfl)
    (hsw : swapsWith (.Call (.Attribute (.Name x np) "append" apos) [e] [] cpos) none pos.line X.env = pure false := by rfl) :
    QS X W (.Expr (.Call (.Attribute (.Name x np) "append" apos) [e] [] cpos) pos) (tDrop (tBM X.K "list" rAppend (tVar i) (tCons te tNil))) (dAppend i de) :=
  qs_append i h hx (pe_bm PySem.F.plainAttrs_list PySem.F.slot_list_append PySem.F.type_list_append mt_append hx (pa_cons h.pe pa_nil hs) hbase hfew hline hs hplain) hsw
theorem s_pop (i : Nat) (hx : PE X (.Name x np) (tVar i)) (hbase : attributeBase (.Name x np) "pop" X.env (eval (.Name x np) X.env) = eval (.Name x np) X.env := by rfl) (hline : (apos.endLine == cpos.line) = true := by rfl)
    (hsw : swapsWith (.Call (.Attribute (.Name x np) "pop" apos) [] [] cpos) none pos.line X.env = pure false := by rfl) :
    QS X W (.Expr (.Call (.Attribute (.Name x np) "pop" apos) [] [] cpos) pos) (tDrop (tBM0 X.K "list" rPop (tVar i))) (dPop i) :=
  qs_pop i (pe_bm0 PySem.F.plainAttrs_list PySem.F.slot_list_pop PySem.F.type_list_pop mt_pop hx hbase hline) hsw
theorem s_putAt (i : Nat) (h : QE X W p e te de) (hx : PE X (.Name x np) (tVar i)) (hj : QE X W p j tj dj)
    (ha : ∀ v, assign (.Subscript (.Name x np) j tpos) X.env v = (do
      let ov ← holding [v] (eval (.Name x np) X.env)
      let iv ← holding [v, ov] (eval j X.env)
      standAt tpos
      holding [v, ov, iv] (setItem ov iv v)
      release [v, ov, iv] []) := by intro _; rfl)
    (hs : swapsWithSole [.Subscript (.Name x np) j tpos] e pos.line X.env = pure false := by rfl) (hw : swappedStores [.Subscript (.Name x np) j tpos] e X.env = pure none := by rfl)
    (h1 : (assignEach [.Subscript (.Name x np) j tpos] X.env).map (·.2) = [assign (.Subscript (.Name x np) j tpos) X.env] := by rfl) :
    QS X W (.Assign [.Subscript (.Name x np) j tpos] e pos) (tAsg te (gSub (tVar i) tj rSetL)) (dPutAt i dj de) :=
  qs_putAt i h hx hj (ps_asg h.pe (pg_sub hx hj.pe set_list ha) hs hw h1)
section
variable {i k : Nat} {px py pt pt2 : Pos} {kt k2 : Nat}
theorem s_parEE (ha : QE X W p a ta da) (hb : QE X W p b tb db) (hc : X.calm = true) (hN : X.N.Nodup) (hi : X.N[i]? = some x) (hj : X.N[k]? = some y) (hij : i ≠ k) (hx : X.env.scope.names.lookup x = some .local) (hy : X.env.scope.names.lookup y = some .local)
    (hw : swappedStores [.Tuple [.Name x px, .Name y py] kt pt] (.Tuple [a, b] k2 pt2) X.env = pure (some [x, y])) (hs : swapsWithSole [.Tuple [.Name x px, .Name y py] kt pt] (.Tuple [a, b] k2 pt2) pos.line X.env = pure false := by rfl)
    (e1 : starEach [a, b] X.env = (false, eval a X.env) :: starEach [b] X.env := by rfl) (e2 : starEach [b] X.env = (false, eval b X.env) :: starEach [] X.env := by rfl) :
    QS X W (.Assign [.Tuple [.Name x px, .Name y py] kt pt] (.Tuple [a, b] k2 pt2) pos) (tPar i k (tCons ta (tCons tb tNil))) (dParEE i k da db) :=
  ⟨ps_par hc hN hi hj hij hx hy (pa_cons ha.pe (pa_cons hb.pe pa_nil e2) e1) hw hs, fun F => sim_parEE (ha.sim F) (hb.sim F)⟩
theorem s_parNE (ha : QN X W p a ta da') (hb : QE X W p b tb db) (hc : X.calm = true) (hN : X.N.Nodup) (hi : X.N[i]? = some x) (hj : X.N[k]? = some y) (hij : i ≠ k) (hx : X.env.scope.names.lookup x = some .local) (hy : X.env.scope.names.lookup y = some .local)
    (hw : swappedStores [.Tuple [.Name x px, .Name y py] kt pt] (.Tuple [a, b] k2 pt2) X.env = pure (some [x, y])) (hs : swapsWithSole [.Tuple [.Name x px, .Name y py] kt pt] (.Tuple [a, b] k2 pt2) pos.line X.env = pure false := by rfl)
    (e1 : starEach [a, b] X.env = (false, eval a X.env) :: starEach [b] X.env := by rfl) (e2 : starEach [b] X.env = (false, eval b X.env) :: starEach [] X.env := by rfl) :
    QS X W (.Assign [.Tuple [.Name x px, .Name y py] kt pt] (.Tuple [a, b] k2 pt2) pos) (tPar i k (tCons ta (tCons tb tNil))) (dParNE i k da' db) :=
  ⟨ps_par hc hN hi hj hij hx hy (pa_cons ha.pe (pa_cons hb.pe pa_nil e2) e1) hw hs, fun F => sim_parNE (ha.sim F) hb.sim⟩
theorem s_parEN (ha : QE X W p a ta da) (hb : QN X W p b tb db') (hc : X.calm = true) (hN : X.N.Nodup) (hi : X.N[i]? = some x) (hj : X.N[k]? = some y) (hij : i ≠ k) (hx : X.env.scope.names.lookup x = some .local) (hy : X.env.scope.names.lookup y = some .local)
    (hw : swappedStores [.Tuple [.Name x px, .Name y py] kt pt] (.Tuple [a, b] k2 pt2) X.env = pure (some [x, y])) (hs : swapsWithSole [.Tuple [.Name x px, .Name y py] kt pt] (.Tuple [a, b] k2 pt2) pos.line X.env = pure false := by rfl)
    (e1 : starEach [a, b] X.env = (false, eval a X.env) :: starEach [b] X.env := by rfl) (e2 : starEach [b] X.env = (false, eval b X.env) :: starEach [] X.env := by rfl) :
    QS X W (.Assign [.Tuple [.Name x px, .Name y py] kt pt] (.Tuple [a, b] k2 pt2) pos) (tPar i k (tCons ta (tCons tb tNil))) (dParEN i k da db') :=
  ⟨ps_par hc hN hi hj hij hx hy (pa_cons ha.pe (pa_cons hb.pe pa_nil e2) e1) hw hs, fun F => sim_parEN (ha.sim F) (hb.sim F)⟩
theorem s_parNN (ha : QN X W p a ta da') (hb : QN X W p b tb db') (hc : X.calm = true) (hN : X.N.Nodup) (hi : X.N[i]? = some x) (hj : X.N[k]? = some y) (hij : i ≠ k) (hx : X.env.scope.names.lookup x = some .local) (hy : X.env.scope.names.lookup y = some .local)
    (hw : swappedStores [.Tuple [.Name x px, .Name y py] kt pt] (.Tuple [a, b] k2 pt2) X.env = pure (some [x, y])) (hs : swapsWithSole [.Tuple [.Name x px, .Name y py] kt pt] (.Tuple [a, b] k2 pt2) pos.line X.env = pure false := by rfl)
    (e1 : starEach [a, b] X.env = (false, eval a X.env) :: starEach [b] X.env := by rfl) (e2 : starEach [b] X.env = (false, eval b X.env) :: starEach [] X.env := by rfl) :
    QS X W (.Assign [.Tuple [.Name x px, .Name y py] kt pt] (.Tuple [a, b] k2 pt2) pos) (tPar i k (tCons ta (tCons tb tNil))) (dParNN i k da' db') :=
  ⟨ps_par hc hN hi hj hij hx hy (pa_cons ha.pe (pa_cons hb.pe pa_nil e2) e1) hw hs, fun F => sim_parNN (ha.sim F) hb.sim⟩
end
theorem n_cat (ha : QE X W p a ta da) (hb : QE X W p b tb db) : QN X W p (.BinOp a .Add b pos) (tOp rCat ta tb) (dCat da db) := qn_cat ha hb (pe_op op_cat ha.pe hb.pe)
theorem n_rep (ha : QE X W p a ta da) (hb : QE X W p b tb db) : QN X W p (.BinOp a .Mult b pos) (tOp rRep ta tb) (dRepL da db) := qn_rep ha hb (pe_op op_rep ha.pe hb.pe)
theorem e_bits (ho : QE X W p a ta da) (hbase : attributeBase a "bit_length" X.env (eval a X.env) = eval a X.env := by rfl) (hline : (apos.endLine == pos.line) = true := by rfl) :
    QE X W p (.Call (.Attribute a "bit_length" apos) [] [] pos) (tBits ta) (dUn fBits da) := qe_bits ho (pe_bits ho.pe hbase hline)
/-! ### comprehensions: the block's parts once at fixed values (that tells what they are), then at all -/
section
variable {elt tg iter : Expr} {ifs : List Expr} {scope : Scope} {own : List (Str × Nat)} {wi : TI} {di : Ev → Rz (List D)} {js : List Nat} {g : TG} {dg : D → Ev → Option Ev} {tt : TT} {dt : Ev → Rz Bool}
theorem n_lc (hc : X.calm = true) (hN : X.N.Nodup) (hi : QI X W p tg iter wi di) (ok : BlkOk X.N X.env.scope scope own)
    (g0 : QG (X.blk X.s_0 X.H_0 scope (compEnvC scope [] 0 X.env) []) tg js g dg) (t0 : QTs (X.blk X.s_0 X.H_0 scope (compEnvC scope [] 0 X.env) []) W0 p ifs tt dt) (e0 : QE (X.blk X.s_0 X.H_0 scope (compEnvC scope [] 0 X.env) []) W0 p elt te de)
    (hg : ∀ (s : Shared) (H : Hp) (C : Addr) (cl : List (Str × Addr)) (fp : List Addr), QG (X.blk s H scope (compEnvC scope cl C X.env) fp) tg js g dg)
    (ht : ∀ (s : Shared) (H : Hp) (C : Addr) (cl : List (Str × Addr)) (fp : List Addr), QTs (X.blk s H scope (compEnvC scope cl C X.env) fp) W0 p ifs tt dt)
    (he : ∀ (s : Shared) (H : Hp) (C : Addr) (cl : List (Str × Addr)) (fp : List Addr), QE (X.blk s H scope (compEnvC scope cl C X.env) fp) W0 p elt te de) (hj : ∀ j ∈ js, j ∈ own.map (·.2))
    (hs : ∀ x, foldedSetIterable iter X.env x = pure x := by intro _; rfl) : QN X W p (.ListComp elt [⟨tg, iter, ifs, 0⟩] scope pos) (tLc wi g tt te (own.map (·.2))) (dLc di dg dt de (own.map (·.2))) := qn_lc hc hN hi ok hg ht he hj hs
theorem s_lc0 {i : Nat} {py spos : Pos} (hc : X.calm = true) (hN : X.N.Nodup) (hy : X.N[i]? = some y) (hyl : X.env.scope.names.lookup y = some .local) (hsw : swapsWith (.ListComp elt [⟨tg, iter, ifs, 0⟩] scope pos) (some (.Name y py)) spos.line X.env = pure true)
    (hi : QI X W p tg iter wi di) (ok : BlkOk X.N X.env.scope scope own)
    (g0 : QG (X.blk X.s_0 X.H_0 scope (compEnvC scope [] 0 X.env) []) tg js g dg) (t0 : QTs (X.blk X.s_0 X.H_0 scope (compEnvC scope [] 0 X.env) []) W0 p ifs tt dt) (e0 : QE (X.blk X.s_0 X.H_0 scope (compEnvC scope [] 0 X.env) []) W0 p elt te de)
    (hg : ∀ (s : Shared) (H : Hp) (C : Addr) (cl : List (Str × Addr)) (fp : List Addr), QG (X.blk s H scope (compEnvC scope cl C X.env) fp) tg js g dg)
    (ht : ∀ (s : Shared) (H : Hp) (C : Addr) (cl : List (Str × Addr)) (fp : List Addr), QTs (X.blk s H scope (compEnvC scope cl C X.env) fp) W0 p ifs tt dt)
    (he : ∀ (s : Shared) (H : Hp) (C : Addr) (cl : List (Str × Addr)) (fp : List Addr), QE (X.blk s H scope (compEnvC scope cl C X.env) fp) W0 p elt te de) (hj : ∀ j ∈ js, j ∈ own.map (·.2))
    (hs : ∀ x, foldedSetIterable iter X.env x = pure x := by intro _; rfl) :
    QS X W (.Assign [.Name y py] (.ListComp elt [⟨tg, iter, ifs, 0⟩] scope pos) spos) (tAsg (tLc wi g tt te (own.map (·.2))) (gName i)) (dSet i (dOfN (dLc di dg dt de (own.map (·.2))))) := s_lc hc hN hy hyl hsw hi ok hg ht he hj hs
end
/-! ### targets = value -/
def dAsg (a : Ev → Rz D) (g : D → Ev → Option Ev) (e : Ev) : Rs := (a e).toS fun d e1 => os (g d e1)
theorem s_asg {tg : Expr} {js : List Nat} {g : TG} {dg : D → Ev → Option Ev} (h : QE X W p e te de) (hg : QG X tg js g dg) (hs : swapsWithSole [tg] e pos.line X.env = pure false := by rfl) (hw : swappedStores [tg] e X.env = pure none := by rfl)
    (h1 : (assignEach [tg] X.env).map (·.2) = [assign tg X.env] := by rfl) : QS X W (.Assign [tg] e pos) (tAsg te g) (dAsg de dg) := by
  refine ⟨ps_asg h.pe hg.pg hs hw h1, fun F S σ H env D E q => ?_⟩
  refine h.sim F S σ H env _ E (Rz.imp (toS_holds q) (fun d e1 q1 S1 H1 v s1 t1 E1 d1 => ?_) fun _ _ _ z => z)
  obtain ⟨e2, ep, k⟩ := os_holds q1
  exact hg.sim F S1 σ H1 e1 v d e2 _ E1 d1 ep fun σ3 E3 _ => k S1 σ3 H1 s1 E3
end

/-! ### x, y = a, b where a name is a cell: the pair is made and taken apart -/
def tTwo (K : PySem.W.Frag) (i j : Nat) (ta tb : TE) : TS := tAsg (tTup (tCons ta (tCons tb tNil))) (gTup K 2 (gCons (gName i) (gCons (gName j) gNil)))
section
variable {K : PySem.W.Frag} {F : Fm} {W : WX} {p : Bool} {i j : Nat} {ta tb : TE} {da db : Ev → Rz D} {da' : Ev → Rz (List D)} {db' : Ev → Rz (List D)}
theorem tup_end {S2 H2 : Hp} {σ : L2.St} {e4 : Ev} {x y : V} {D : Ends} (k : ∀ H', EnvOk K F S2 ((σ.set i (some x)).set j (some y)) H' e4 → D.nx ((σ.set i (some x)).set j (some y)) H') (E : EnvOk K F S2 ((σ.set i (some x)).set j (some y)) H2 e4) :
    [x, y].length ≤ sizeLine ∧ ∀ r, H2 r = none → gTup K 2 (gCons (gName i) (gCons (gName j) gNil)) (.ref r) σ (upd H2 r (.tup [x, y])) D.nx := by
  refine ⟨size_ok (show 2 ≤ 1000000 by decide), fun r hr => ⟨r, [x, y], rfl, .inl (.inl upd_same), rfl, x, [y], rfl, y, [], rfl, rfl, ?_⟩⟩
  exact k _ (E.mono (Same.refl _) (same_upd hr) (E.sub.trans (same_upd hr)) fun _ _ n => n)
theorem sim_tupEE (ha : SimE K F W p ta da) (hb : SimE K F W p tb db) : SimS K F W (tTwo K i j ta tb) (dParEE i j da db) := by
  intro S σ H env D E q
  refine ha S σ H env _ E (Rz.imp (toS_holds q) (fun d e1 q1 S1 H1 v s1 t1 E1 d1 => ?_) fun _ _ _ z => z)
  refine hb S1 σ H1 e1 _ E1 (Rz.imp (toS_holds q1) (fun d' e2 q2 S2 H2 v' s2 t2 E2 d2 => ?_) fun _ _ _ z => z.mono s1)
  obtain ⟨e4, h4, k⟩ := os_holds q2
  obtain ⟨e3, h3, h5⟩ := put2_some h4
  exact tup_end (fun H' E' => k S2 _ H' (s1.trans s2) E') ((E2.putDat h3 (d1.mono s2)).putDat h5 d2)
theorem sim_tupNE (ha : SimN K F W p ta da') (hb : ∀ F, SimE K F W p tb db) : SimS K F W (tTwo K i j ta tb) (dParNE i j da' db) := by
  intro S σ H env D E q
  refine ha S σ H env _ E (Rz.imp (toS_holds q) (fun d e1 q1 S1 H1 r s1 t1 E1 N1 => ?_) fun _ _ _ z => z)
  refine hb (guardF F r H1) S1 σ H1 e1 _ (E1.guard N1) (Rz.imp (toS_holds q1) (fun d' e2 q2 S2 H2 v' s2 t2 E2 d2 => ?_) fun _ _ _ z => ExW.guard (z.mono s1) N1.nr)
  obtain ⟨e4, h4, k⟩ := os_holds q2
  obtain ⟨e3, h3, h5⟩ := put2_some h4
  obtain ⟨E3, g1, g2, g3⟩ := E2.unguard N1.nr
  obtain ⟨vs, n1, n2⟩ := N1.at_
  have N2 : NewL K F S2 H2 σ e2 r d := ⟨⟨vs, by rw [g1]; exact n1, n2.mono s2⟩, g2, N1.new, g3, N1.nr⟩
  exact tup_end (fun H' E' => k S2 _ H' (s1.trans s2) E') ((E3.putNew h3 N2).putDat h5 d2)
theorem sim_tupNN (ha : SimN K F W p ta da') (hb : ∀ F, SimN K F W p tb db') : SimS K F W (tTwo K i j ta tb) (dParNN i j da' db') := by
  intro S σ H env D E q
  refine ha S σ H env _ E (Rz.imp (toS_holds q) (fun d e1 q1 S1 H1 r s1 t1 E1 N1 => ?_) fun _ _ _ z => z)
  refine hb (guardF F r H1) S1 σ H1 e1 _ (E1.guard N1) (Rz.imp (toS_holds q1) (fun d' e2 q2 S2 H2 r' s2 t2 E2 M2 => ?_) fun _ _ _ z => ExW.guard (z.mono s1) N1.nr)
  obtain ⟨e4, h4, k⟩ := os_holds q2
  obtain ⟨e3, h3, h5⟩ := put2_some h4
  obtain ⟨E3, g1, g2, g3⟩ := E2.unguard N1.nr
  obtain ⟨vs, n1, n2⟩ := N1.at_
  have N2 : NewL K F S2 H2 σ e2 r d := ⟨⟨vs, by rw [g1]; exact n1, n2.mono s2⟩, g2, N1.new, g3, N1.nr⟩
  have M3 : NewL K F S2 H2 σ e2 r' d' := ⟨M2.at_, M2.off, M2.new, M2.apart, fun z => M2.nr (.inl z)⟩
  exact tup_end (fun H' E' => k S2 _ H' (s1.trans s2) E') ((E3.putNew h3 N2).putNew h5 (M3.putN h3 (fun z => M2.nr (.inr z))))
theorem sim_tupEN (ha : SimE K F W p ta da) (hb : SimN K F W p tb db') : SimS K F W (tTwo K i j ta tb) (dParEN i j da db') := by
  intro S σ H env D E q
  refine ha S σ H env _ E (Rz.imp (toS_holds q) (fun d e1 q1 S1 H1 v s1 t1 E1 d1 => ?_) fun _ _ _ z => z)
  refine hb S1 σ H1 e1 _ E1 (Rz.imp (toS_holds q1) (fun d' e2 q2 S2 H2 r s2 t2 E2 N2 => ?_) fun _ _ _ z => z.mono s1)
  obtain ⟨e4, h4, k⟩ := os_holds q2
  obtain ⟨e3, h3, h5⟩ := put2_some h4
  exact tup_end (fun H' E' => k S2 _ H' (s1.trans s2) E') ((E2.putDat h3 (d1.mono s2)).putNew h5 (N2.put h3))
end
section
variable {X : Cx} {W : WX} {p : Bool} {i k : Nat} {x y : Str} {a b : Expr} {ta tb : TE} {da db : Ev → Rz D} {da' db' : Ev → Rz (List D)} {px py pt pt2 pos : Pos} {kt k2 : Nat}
theorem s_tupEE (ha : QE X W p a ta da) (hb : QE X W p b tb db) (hc : X.calm = true) (hN : X.N.Nodup) (hi : X.N[i]? = some x) (hj : X.N[k]? = some y) (hx : Loc X.env.scope x) (hy : Loc X.env.scope y) (f1 : X.fn x = true ∨ X.env.scope.names.lookup x = some .local := by first | exact .inl rfl | exact .inr rfl) (f2 : X.fn y = true ∨ X.env.scope.names.lookup y = some .local := by first | exact .inl rfl | exact .inr rfl)
    (hw : swappedStores [.Tuple [.Name x px, .Name y py] kt pt] (.Tuple [a, b] k2 pt2) X.env = pure none := by rfl) (hs : swapsWithSole [.Tuple [.Name x px, .Name y py] kt pt] (.Tuple [a, b] k2 pt2) pos.line X.env = pure false := by rfl)
    (h1 : (assignEach [.Tuple [.Name x px, .Name y py] kt pt] X.env).map (·.2) = [assign (.Tuple [.Name x px, .Name y py] kt pt) X.env] := by rfl)
    (g1 : (assignEach [.Name x px, .Name y py] X.env).map (·.2) = assign (.Name x px) X.env :: (assignEach [.Name y py] X.env).map (·.2) := by rfl) (g2 : (assignEach [.Name y py] X.env).map (·.2) = assign (.Name y py) X.env :: (assignEach [] X.env).map (·.2) := by rfl)
    (g3 : (assignEach [.Name x px, .Name y py] X.env).length = 2 := by rfl) (g4 : (assignEach [.Name x px, .Name y py] X.env).findIdx? (·.1) = none := by rfl)
    (e1 : starEach [a, b] X.env = (false, eval a X.env) :: starEach [b] X.env := by rfl) (e2 : starEach [b] X.env = (false, eval b X.env) :: starEach [] X.env := by rfl) :
    QS X W (.Assign [.Tuple [.Name x px, .Name y py] kt pt] (.Tuple [a, b] k2 pt2) pos) (tTwo X.K i k ta tb) (dParEE i k da db) :=
  ⟨ps_asg (pe_tup (pa_cons ha.pe (pa_cons hb.pe pa_nil e2) e1)) (pg_tup hc (pgs_cons (pg_name hN hi hx f1) (pgs_cons (pg_name hN hj hy f2) pgs_nil g2) g1) g3 g4) hs hw h1, fun F => sim_tupEE (ha.sim F) (hb.sim F)⟩
theorem s_tupNE (ha : QN X W p a ta da') (hb : QE X W p b tb db) (hc : X.calm = true) (hN : X.N.Nodup) (hi : X.N[i]? = some x) (hj : X.N[k]? = some y) (hx : Loc X.env.scope x) (hy : Loc X.env.scope y) (f1 : X.fn x = true ∨ X.env.scope.names.lookup x = some .local := by first | exact .inl rfl | exact .inr rfl) (f2 : X.fn y = true ∨ X.env.scope.names.lookup y = some .local := by first | exact .inl rfl | exact .inr rfl)
    (hw : swappedStores [.Tuple [.Name x px, .Name y py] kt pt] (.Tuple [a, b] k2 pt2) X.env = pure none := by rfl) (hs : swapsWithSole [.Tuple [.Name x px, .Name y py] kt pt] (.Tuple [a, b] k2 pt2) pos.line X.env = pure false := by rfl)
    (h1 : (assignEach [.Tuple [.Name x px, .Name y py] kt pt] X.env).map (·.2) = [assign (.Tuple [.Name x px, .Name y py] kt pt) X.env] := by rfl)
    (g1 : (assignEach [.Name x px, .Name y py] X.env).map (·.2) = assign (.Name x px) X.env :: (assignEach [.Name y py] X.env).map (·.2) := by rfl) (g2 : (assignEach [.Name y py] X.env).map (·.2) = assign (.Name y py) X.env :: (assignEach [] X.env).map (·.2) := by rfl)
    (g3 : (assignEach [.Name x px, .Name y py] X.env).length = 2 := by rfl) (g4 : (assignEach [.Name x px, .Name y py] X.env).findIdx? (·.1) = none := by rfl)
    (e1 : starEach [a, b] X.env = (false, eval a X.env) :: starEach [b] X.env := by rfl) (e2 : starEach [b] X.env = (false, eval b X.env) :: starEach [] X.env := by rfl) :
    QS X W (.Assign [.Tuple [.Name x px, .Name y py] kt pt] (.Tuple [a, b] k2 pt2) pos) (tTwo X.K i k ta tb) (dParNE i k da' db) :=
  ⟨ps_asg (pe_tup (pa_cons ha.pe (pa_cons hb.pe pa_nil e2) e1)) (pg_tup hc (pgs_cons (pg_name hN hi hx f1) (pgs_cons (pg_name hN hj hy f2) pgs_nil g2) g1) g3 g4) hs hw h1, fun F => sim_tupNE (ha.sim F) hb.sim⟩
theorem s_tupEN (ha : QE X W p a ta da) (hb : QN X W p b tb db') (hc : X.calm = true) (hN : X.N.Nodup) (hi : X.N[i]? = some x) (hj : X.N[k]? = some y) (hx : Loc X.env.scope x) (hy : Loc X.env.scope y) (f1 : X.fn x = true ∨ X.env.scope.names.lookup x = some .local := by first | exact .inl rfl | exact .inr rfl) (f2 : X.fn y = true ∨ X.env.scope.names.lookup y = some .local := by first | exact .inl rfl | exact .inr rfl)
    (hw : swappedStores [.Tuple [.Name x px, .Name y py] kt pt] (.Tuple [a, b] k2 pt2) X.env = pure none := by rfl) (hs : swapsWithSole [.Tuple [.Name x px, .Name y py] kt pt] (.Tuple [a, b] k2 pt2) pos.line X.env = pure false := by rfl)
    (h1 : (assignEach [.Tuple [.Name x px, .Name y py] kt pt] X.env).map (·.2) = [assign (.Tuple [.Name x px, .Name y py] kt pt) X.env] := by rfl)
    (g1 : (assignEach [.Name x px, .Name y py] X.env).map (·.2) = assign (.Name x px) X.env :: (assignEach [.Name y py] X.env).map (·.2) := by rfl) (g2 : (assignEach [.Name y py] X.env).map (·.2) = assign (.Name y py) X.env :: (assignEach [] X.env).map (·.2) := by rfl)
    (g3 : (assignEach [.Name x px, .Name y py] X.env).length = 2 := by rfl) (g4 : (assignEach [.Name x px, .Name y py] X.env).findIdx? (·.1) = none := by rfl)
    (e1 : starEach [a, b] X.env = (false, eval a X.env) :: starEach [b] X.env := by rfl) (e2 : starEach [b] X.env = (false, eval b X.env) :: starEach [] X.env := by rfl) :
    QS X W (.Assign [.Tuple [.Name x px, .Name y py] kt pt] (.Tuple [a, b] k2 pt2) pos) (tTwo X.K i k ta tb) (dParEN i k da db') :=
  ⟨ps_asg (pe_tup (pa_cons ha.pe (pa_cons hb.pe pa_nil e2) e1)) (pg_tup hc (pgs_cons (pg_name hN hi hx f1) (pgs_cons (pg_name hN hj hy f2) pgs_nil g2) g1) g3 g4) hs hw h1, fun F => sim_tupEN (ha.sim F) (hb.sim F)⟩
theorem s_tupNN (ha : QN X W p a ta da') (hb : QN X W p b tb db') (hc : X.calm = true) (hN : X.N.Nodup) (hi : X.N[i]? = some x) (hj : X.N[k]? = some y) (hx : Loc X.env.scope x) (hy : Loc X.env.scope y) (f1 : X.fn x = true ∨ X.env.scope.names.lookup x = some .local := by first | exact .inl rfl | exact .inr rfl) (f2 : X.fn y = true ∨ X.env.scope.names.lookup y = some .local := by first | exact .inl rfl | exact .inr rfl)
    (hw : swappedStores [.Tuple [.Name x px, .Name y py] kt pt] (.Tuple [a, b] k2 pt2) X.env = pure none := by rfl) (hs : swapsWithSole [.Tuple [.Name x px, .Name y py] kt pt] (.Tuple [a, b] k2 pt2) pos.line X.env = pure false := by rfl)
    (h1 : (assignEach [.Tuple [.Name x px, .Name y py] kt pt] X.env).map (·.2) = [assign (.Tuple [.Name x px, .Name y py] kt pt) X.env] := by rfl)
    (g1 : (assignEach [.Name x px, .Name y py] X.env).map (·.2) = assign (.Name x px) X.env :: (assignEach [.Name y py] X.env).map (·.2) := by rfl) (g2 : (assignEach [.Name y py] X.env).map (·.2) = assign (.Name y py) X.env :: (assignEach [] X.env).map (·.2) := by rfl)
    (g3 : (assignEach [.Name x px, .Name y py] X.env).length = 2 := by rfl) (g4 : (assignEach [.Name x px, .Name y py] X.env).findIdx? (·.1) = none := by rfl)
    (e1 : starEach [a, b] X.env = (false, eval a X.env) :: starEach [b] X.env := by rfl) (e2 : starEach [b] X.env = (false, eval b X.env) :: starEach [] X.env := by rfl) :
    QS X W (.Assign [.Tuple [.Name x px, .Name y py] kt pt] (.Tuple [a, b] k2 pt2) pos) (tTwo X.K i k ta tb) (dParNN i k da' db') :=
  ⟨ps_asg (pe_tup (pa_cons ha.pe (pa_cons hb.pe pa_nil e2) e1)) (pg_tup hc (pgs_cons (pg_name hN hi hx f1) (pgs_cons (pg_name hN hj hy f2) pgs_nil g2) g1) g3 g4) hs hw h1, fun F => sim_tupNN (ha.sim F) hb.sim⟩
end
/-! ### more that leaves the slots as they are -/
instance still_listOf {a : Ev → Rz (List D)} [ha : StillA a] : StillA (dListOf a) := ⟨fun env d e' h => by
  obtain ⟨x, e1, h1, h2⟩ := Rz.bind_ok h
  have e := ha.at_ _ _ _ h1
  subst e
  unfold listOf at h2
  split at h2 <;> cases h2 <;> rfl⟩
instance still_listSee {i : Nat} : StillA (dListSee i) := ⟨fun env d e' h => by
  unfold dListSee onI at h
  split at h <;> cases h
  rfl⟩
instance still_cat {a b : Ev → Rz D} [ha : Still a] [hb : Still b] : StillA (dCat a b) := ⟨fun env d e' h => by
  obtain ⟨x, e1, h1, h2⟩ := Rz.bind_ok h
  obtain ⟨y, e2, h3, h4⟩ := Rz.bind_ok h2
  obtain ⟨_, h5⟩ := oz_ok h4
  rw [h5, hb.at_ _ _ _ h3, ha.at_ _ _ _ h1]⟩
instance still_rep {a b : Ev → Rz D} [ha : Still a] [hb : Still b] : StillA (dRepL a b) := ⟨fun env d e' h => by
  obtain ⟨x, e1, h1, h2⟩ := Rz.bind_ok h
  obtain ⟨y, e2, h3, h4⟩ := Rz.bind_ok h2
  obtain ⟨_, h5⟩ := oz_ok h4
  rw [h5, hb.at_ _ _ _ h3, ha.at_ _ _ _ h1]⟩
end DL
set_option Elab.async false
set_option linter.all false
set_option maxRecDepth 100000
set_option maxHeartbeats 4000000
/-! DLx: an own exception class over ValueError (at any depth) whose __init__(self, value) says super().__init__(value); self.f = value. -/
namespace DL
open PySem PySem.Spec PySem.W PySem.Calls PyProof.Rows L2

/-- the object's __init__ bound to it, called -/
theorem call_mw {prog : Program} {w : World} {A : Around} {E : Value → Shared → Prop} {h : Heap} {g : Array GenState} {d : Drawn} {t : Nat} {os : OsState}
    {nm q : Str} {C N : Addr} {bs bm : List Value} {hdct : Bool} {sn : List Str} {sub : List Value} {ab : Bool} {col : Option Bool} {dd : Option Addr} {k0 k1 k2 k3 k5 : Option Value} {u e t0 : Addr} {rest : List Value} {Q : Value → Shared → Prop}
    (hC : h.get? C = some (excClassObj nm q C N bs bm hdct sn sub ab col dd k0 k1 k2 k3 k5 "ValueError.__new__")) (he : h.get? e = some (HandSPX.excO C t0)) (hu : h.get? u = some (kxs_mw "ValueError.__init__" e)) (hrest : rest.length ≤ sizeLine)
    (hq : ∀ h' t1, (∀ b o, b ≠ e → h.get? b = some o → h'.get? b = some o) → h'.get? e = some (HandSPX.excO C t1) → Q .none ⟨h', g, d, t, os⟩) :
    wpAny (model prog w) A (call (.ref u) rest) Q E ⟨h, g, d, t, os⟩ := by
  refine wpAny_call (codeAny_of_tree ?_)
  show wpAny _ A.in1 (callAny (.ref u) ⟨rest, []⟩) _ _ _
  simp only [callAny]
  refine wpAny_bind (wpAny_load hu ?_)
  simp only [kxs_mw, show (Value.type "method-wrapper" == Value.type "method" || Value.type "method-wrapper" == Value.type "builtin_function_or_method" || Value.type "method-wrapper" == Value.type "method-wrapper") = true by decide, if_true]
  refine KFB.if_so (by decide) ?_
  refine wpAny_bind (check_bound_init PySem.F.excBase_ValueError.toExcCallFacts hC he rfl ?_)
  refine wpAny_bind (wpAny_pure (wpAny_pure ?_))
  refine ⟨Code.quiet_builtin _ (by decide +kernel), codeAny_builtin PySem.F.excBase_ValueError.initEntry ?_⟩
  rw [Around.under_plainId PySem.F.excBase_ValueError.init.plain _]
  wp_walk
  refine hq _ h.objs.size (fun b o hb ho => ?_) ?_
  · rw [Heap.get?_update_other _ _ (Ne.symm hb)]
    exact Heap.get?_push_of_some _ ho
  · rw [Heap.get?_update_self _ (Heap.get?_push_of_some _ he) rfl]
    rfl

/-- the words of such an __init__ -/
structure SupD where
  name : Str
  qual : Str
  params : Arguments
  scope : Scope
  self : Str
  arg : Str
  fld : Str
  p0 : Pos
  p1 : Pos
  p2 : Pos
  p3 : Pos
  p4 : Pos
  p5 : Pos
  p6 : Pos
  p7 : Pos
  p8 : Pos
  p9 : Pos
abbrev SupD.body (Z : SupD) : List Stmt := [.Expr (.Call (.Attribute (.Call (.Name "super" Z.p0) [] [] Z.p1) "__init__" Z.p2) [.Name Z.arg Z.p3] [] Z.p4) Z.p5, .Assign [.Attribute (.Name Z.self Z.p6) Z.fld Z.p7] (.Name Z.arg Z.p8) Z.p9]
/-- what the text says of the words -/
structure SupD.Ok (Z : SupD) : Prop where
  cell : ∀ x ∈ Z.scope.names, x.2 ≠ .cell
  ks : Z.scope.names.lookup ("super" : Str) = some .globalImplicit
  kc : Z.scope.names.lookup ("__class__" : Str) = some .free
  kself : Z.scope.names.lookup Z.self = some .local
  karg : Z.scope.names.lookup Z.arg = some .local
  ne : Z.self ≠ Z.arg
  k : Z.scope.kind = .function
  co : Z.scope.isCoroutine = false
  gen : Z.scope.isGenerator = false
  hd : ∃ ar, (Z.params.posonlyargs ++ Z.params.args).head? = some ar ∧ ar.arg = Z.self
  dbg : (Z.self == ("__debug__" : Str)) = false ∧ (Z.arg == ("__debug__" : Str)) = false
  ev : ∃ pl, ∀ (L f : Addr) (cd : Value) (cc : Addr), eval (.Call (.Attribute (.Call (.Name "super" Z.p0) [] [] Z.p1) "__init__" Z.p2) [.Name Z.arg Z.p3] [] Z.p4) (ksEnv Z.qual Z.scope L f cd cc) = (do
    let ov ← attributeBase (.Call (.Name "super" Z.p0) [] [] Z.p1) "__init__" (ksEnv Z.qual Z.scope L f cd cc) (eval (.Call (.Name "super" Z.p0) [] [] Z.p1) (ksEnv Z.qual Z.scope L f cd cc))
    standAt Z.p2.atName
    let (f', first) ← holding [ov] (getMethod ov "__init__" pl)
    callWith Z.p4 f' first (backTo Z.p4 (starEach [.Name Z.arg Z.p3] (ksEnv Z.qual Z.scope L f cd cc))) [])
  int : ∀ (L f : Addr) (cd : Value) (cc : Addr), interactive (ksEnv Z.qual Z.scope L f cd cc) = false
  sw1 : ∀ (L f : Addr) (cd : Value) (cc : Addr), swapsWith (.Call (.Attribute (.Call (.Name "super" Z.p0) [] [] Z.p1) "__init__" Z.p2) [.Name Z.arg Z.p3] [] Z.p4) none Z.p5.line (ksEnv Z.qual Z.scope L f cd cc) = pure false
  sw2 : ∀ (L f : Addr) (cd : Value) (cc : Addr), swapsWith (.Name Z.arg Z.p8) (some (.Attribute (.Name Z.self Z.p6) Z.fld Z.p7)) Z.p9.line (ksEnv Z.qual Z.scope L f cd cc) = pure false
/-- what the written part says of the class at C -/
structure SupC (P : Program) (K : PySem.W.Frag) (mg : Str → Option Value) (C fI : Addr) (Z : SupD) : Prop where
  o : OexC K C
  fn : ∃ (oc : Value) (od : Option Addr) (osl : Array (Option Value)) (dV kV doc pm ct : Value) (an : Option Addr) (cda cc : Addr), K.lookup fI = some ⟨oc, od, .func (ksFn Z.name Z.qual Z.params Z.body Z.scope dV kV doc pm an (.ref cda) ct cc), osl⟩ ∧ codeIn K (.ref cda) Z.qual = true ∧
    (∃ (ccl : Value) (cdd : Option Addr) (vs : Array Value) (ccs : Array (Option Value)) (file : Str) (tf : Tok), K.lookup cda = some ⟨ccl, cdd, .fields vs, ccs⟩ ∧ vs[2]? = some (.str file tf) ∧ ((P.main.file : Str) == file) = true) ∧
    (∃ (cl : Value) (cld : Option Addr) (csl : Array (Option Value)), K.lookup cc = some ⟨cl, cld, .cell (some (.ref C)), csl⟩) ∧
    ∀ (s : Shared) (a u : Value), K.In s.heap → BindsTo s (ksFn Z.name Z.qual Z.params Z.body Z.scope dV kV doc pm an (.ref cda) ct cc) ⟨[a, u], []⟩ [(Z.self, a), (Z.arg, u)]
  iC : findIn K (.ref C) "__init__" = some (some (.ref fI))
  tI : typeIn K (.ref fI) = some (.type "function")
  cls : ∃ cd, clsIn K C = some cd ∧ alongIn K "__init__" ((cd.mro.dropWhile (· != .ref C)).drop 1) = some (some (.builtin "ValueError.__init__"))
  sub : mroIn K C (.ref C) = some true
  subV : subIn K (.ref C) (.type "ValueError") = some true
  opq : nsIn K cStatics "thirdparty.any" = some none
  fld : findIn K (.ref C) Z.fld = some none
  sup : mg "super" = none
  top : (P.main.scope.names.lookup ("super" : Str)).isSome = false

section
variable {P : Program} {w : World} {K : PySem.W.Frag} {mg : Str → Option Value} {base : Heap} {A : Around} {R : Result → Shared → Prop}
theorem sup_run {Z : SupD} {C fI a t0 : Addr} {u : Value} {h : Heap} {g : Array GenState} {d : Drawn} {t : Nat} {os : OsState} (ZO : Z.Ok) (S : SupC P K mg C fI Z) (M : Mod K mg base) (hk : ∀ b o, base.get? b = some o → h.get? b = some o) (nb : ∀ b o, base.get? b = some o → b ≠ a) (hroom : A.depth < recursionLimit)
    (ha : h.get? a = some (HandSPX.excO C t0))
    (hq : ∀ h' tk' dx t1, (∀ b o, b ≠ a → h.get? b = some o → h'.get? b = some o) → h.objs.size ≤ dx → dx ≠ a → h'.get? a = some ({ cls := .ref C, dict := some dx, data := .fields #[.ref t1, .none, .none, .none, .bool false, .none] } : Obj) →
      h'.Ns1 dx (fun y => if y = Z.fld then some u else none) → R (.ok (.ret .none)) ⟨h', g, d, tk', os⟩) :
    codeAny (model P w) A (.call (.ref fI) ⟨[.ref a, u], []⟩) R ⟨h, g, d, t, os⟩ := by
  obtain ⟨oc, od, osl, dV, kV, doc, pm, ct, an, cda, cc, lk, hcd, ⟨ccl, cdd, vs, ccs, file, tf, hcode, hvs, hfile⟩, ⟨cl, cld, csl, hcell⟩, hb⟩ := S.fn
  obtain ⟨nm, q, N, bs, bm, sn, sub, ab, col, dd, k0, k1, k2, k3, k5, hC, hbm⟩ := S.o.cls
  obtain ⟨cd, hcd2, hal⟩ := S.cls
  have hcl : PySem.W.clsIn K C = some { name := nm, bases := bs, mro := .ref C :: bm, ns := N, qualname := q, hasDict := true, slotNames := sn, subclasses := sub, abstract := ab, collection := col, hasDel := false } := by unfold PySem.W.clsIn; rw [hC] <;> rfl
  have X : K.In h := M.kin.keeps hk
  obtain ⟨ar, har, hars⟩ := ZO.hd
  obtain ⟨mb, hb1, hb2⟩ := M.blt
  refine ks_codeAny_call_defAt (fd := ksFn Z.name Z.qual Z.params Z.body Z.scope dV kV doc pm an (.ref cda) ct cc) (body := Z.body) (binds := [(Z.self, .ref a), (Z.arg, u)]) hroom (X _ _ lk) rfl (M.nolimit.keeps hk) (codeRec_of X hcd) rfl (hb _ _ _ X) ZO.cell (fun y hy => ?_) (fun h0 hns kp => ?_) ZO.co ZO.gen ZO.k
  · rcases List.mem_cons.mp hy with rfl | hy
    · exact ZO.kself
    · rcases List.mem_cons.mp hy with rfl | hy
      · exact ZO.karg
      · exact absurd hy (by simp)
  have X0 : K.In h0 := X.keeps kp
  have ha0 := kp _ _ ha
  have eself : ([(Z.self, Value.ref a), (Z.arg, u)] : List (Str × Value)).reverse.lookup Z.self = some (.ref a) := by
    have n : (Z.self == Z.arg) = false := by simpa using ZO.ne
    simp [List.lookup, n]
  have earg : ([(Z.self, Value.ref a), (Z.arg, u)] : List (Str × Value)).reverse.lookup Z.arg = some u := by
    simp [List.lookup]
  obtain ⟨oD, hD1, hD2⟩ : ∃ oD, h0.get? C = some oD ∧ oD.data = .cls { name := nm, bases := bs, mro := .ref C :: bm, ns := N, qualname := q, hasDict := true, slotNames := sn, subclasses := sub, abstract := ab, collection := col, hasDel := false } := ⟨_, X0 _ _ hC, rfl⟩
  obtain ⟨pl, hev⟩ := ZO.ev
  refine ks_wpAt_execs_cons (ks_wpAt_Expr_any (hi := ZO.int _ _ _ _) (hs := ZO.sw1 _ _ _ _) (ks_wpAt_MethodCall (he := hev _ _ _ _) (ks_wpAt_super_base (fd := ksFn Z.name Z.qual Z.params Z.body Z.scope dV kV doc pm an (.ref cda) ct cc) (f := fI) (cc := cda) (ar := ar) ZO.ks ZO.kc (by decide) rfl (X0 _ _ lk) rfl har rfl (X0 _ _ hcode) rfl hvs hfile S.top ?_)))
  refine ks_loadName_global ZO.k ZO.ks (loadGlobal_builtin (M.glob.keeps fun b o e => kp _ _ (hk _ _ e)) S.sup (hb1.keeps fun b o e => kp _ _ (hk _ _ e)) ((hb2 _ (by decide)).trans (show bootBuiltins "super" = some (.type "super") by decide +kernel)) ⟨rfl, ?_⟩)
  refine wpAny_loadName_free ZO.k ZO.kc rfl ⟨_, X0 _ _ hcell, rfl⟩ ?_
  rw [hars]
  refine wpAny_loadName_local ZO.k ZO.kself hns eself ?_
  refine ks_wpAny_isType_cls hD1 hD2 ⟨rfl, ?_⟩
  refine ks_wpAny_call_super hD1 hD2 ha0 rfl (fun c e => ?_) (looks_mroIn X0 S.sub) (fun h1 e1 kp1 => ?_)
  · cases e
  have X1 : K.In h1 := X0.keeps kp1
  have ha1 := kp1 _ _ ha0
  have I1 : InstAt h1 a (HandSPX.excO C t0) C none := ⟨ha1, rfl, rfl, trivial⟩
  refine kxs_getMethod kxs_ValueError e1 (looks_opaque X1 S.opq) (l₀ := cd.mro) ?_ rfl X1 hal (I1.type.andThen (looks_subIn X1 S.subV)) (ks_ne X1 I1 hcl) (by decide) ?_
  · exact fun A Q E s k q => wpAny_bind ((looks_clsIn X1 hcd2) A _ E s k (wpAny_pure q))
  have hu2 : (h1.push (kxs_mw "ValueError.__init__" a)).get? h1.objs.size = some (kxs_mw "ValueError.__init__" a) := Heap.get?_push_at rfl rfl
  have kp2 : ∀ b o, h1.get? b = some o → (h1.push (kxs_mw "ValueError.__init__" a)).get? b = some o := fun b o e => Heap.get?_push_of_some _ e
  have hns2 : (h1.push (kxs_mw "ValueError.__init__" a)).Ns h.objs.size (fun x => ([(Z.self, Value.ref a), (Z.arg, u)] : List (Str × Value)).reverse.lookup x) := (hns.keeps kp1).keeps kp2
  show wpAny _ _ (callWith Z.p4 (Value.ref h1.objs.size) [] (backTo Z.p4 (starEach [.Name Z.arg Z.p3] (ksEnv Z.qual Z.scope h.objs.size fI (.ref cda) cc))) []) _ _ _
  refine kxs_callWith (i := "ValueError.__init__") (x := a) rfl (evalArgs_plain ?_)
  have ld : ∀ {E : Value → Shared → Prop} {A : Around} {h' : Heap} {g : Array GenState} {d : Drawn} {t : Nat} {os : OsState} {Q : Value → Shared → Prop} {p : Pos}, h'.Ns h.objs.size (fun x => ([(Z.self, Value.ref a), (Z.arg, u)] : List (Str × Value)).reverse.lookup x) → Q u ⟨h', g, d, t, os⟩ →
      wpAny (model P w) A (eval (.Name Z.arg p) (ksEnv Z.qual Z.scope h.objs.size fI (.ref cda) cc)) Q E ⟨h', g, d, t, os⟩ := fun hn hq => wpAny_Name (wpAny_loadName_local (env := ksEnv Z.qual Z.scope h.objs.size fI (.ref cda) cc) ZO.k ZO.karg hn earg hq) ZO.dbg.2
  have ls : ∀ {E : Value → Shared → Prop} {A : Around} {h' : Heap} {g : Array GenState} {d : Drawn} {t : Nat} {os : OsState} {Q : Value → Shared → Prop} {p : Pos}, h'.Ns h.objs.size (fun x => ([(Z.self, Value.ref a), (Z.arg, u)] : List (Str × Value)).reverse.lookup x) → Q (.ref a) ⟨h', g, d, t, os⟩ →
      wpAny (model P w) A (eval (.Name Z.self p) (ksEnv Z.qual Z.scope h.objs.size fI (.ref cda) cc)) Q E ⟨h', g, d, t, os⟩ := fun hn hq => wpAny_Name (wpAny_loadName_local (env := ksEnv Z.qual Z.scope h.objs.size fI (.ref cda) cc) ZO.k ZO.kself hn eself hq) ZO.dbg.1
  refine spliced_more (env := ksEnv Z.qual Z.scope h.objs.size fI (.ref cda) cc) (ld hns2 ?_) rfl
  refine spliced_none ?_
  refine ⟨hu2, ?_⟩
  refine call_mw (t0 := t0) (X1 _ _ hC |> kp2 _ _) (kp2 _ _ ha1) hu2 (by rw [sizeLine_eq]; show 1 ≤ _; decide) fun h3 t1 kp3 ha3 => ?_
  have na : ∀ {b : Addr} {o : Obj}, b ≠ a → h.get? b = some o → h3.get? b = some o := fun {b o} n e => kp3 b o n (kp2 _ _ (kp1 _ _ (kp _ _ e)))
  have L0 : h.objs.size ≠ a := fun z => by
    have y := Heap.lt_size ha
    rw [← z] at y
    exact absurd y (Nat.lt_irrefl _)
  have hns3 : h3.Ns h.objs.size (fun x => ([(Z.self, Value.ref a), (Z.arg, u)] : List (Str × Value)).reverse.lookup x) := hns2.at fun o e => kp3 _ _ L0 e
  have X3 : K.In h3 := M.kin.keeps fun b o e => na (nb b o e) (hk _ _ e)
  refine wpAt_of_wpAny ?_
  refine wpAny_execs_cons (plainObj_wpAny_Assign_Attribute (hs := ZO.sw2 _ _ _ _) (ld hns3 (ls hns3 ?_)))
  refine PySem.W.set_plain X3 (ox := { cls := .ref C, dict := none, data := .fields #[.ref t1, .none, .none, .none, .bool false, .none] }) (od := none) ⟨ha3, rfl, rfl, trivial⟩ S.o.sa ?_
  refine PySem.HandSPX.exc_osa X3 ha3 hcl (show PySem.HandSPX.refsVE (.ref C :: bm) = true from hbm) rfl S.fld (fun h4 tk' dx k4 dn dne hx hn => ?_)
  exact wpAny_pure (hq h4 tk' dx t1 (fun b o n e => k4 b o n (na n e)) (Nat.le_trans (Nat.le_of_lt hns3.lt) dn) dne hx hn)
end

/-! ### C(e) as an exception that is raised -/
/-- the exception's class and dict: the field is the value of e -/
def tMkS (C : Addr) (f : Str) (te : TE) : L2.St → Hp → XK → Prop := fun σ H Q => te σ H fun y H1 => ∀ d, H1 d = none → Q (.ref C) (some d) (upd H1 d (.xd [(f, y)]))
section
variable {X : Cx} {e : Expr} {te : TE} {p pos : Pos}
theorem pmk_sup {x : Str} {C fI : Addr} {Z : SupD} {k : Nat} (ZO : Z.Ok) (S : SupC X.prog X.K X.mg C fI Z) (hr : Room (k + 1) X.A) (hg : Gl X x) (hm : X.mg x = some (.ref C)) (hp : PE X e te)
    (hdb : (x == ("__debug__" : Str)) = false := by decide) (he : starEach [e] X.env = (false, eval e X.env) :: starEach [] X.env := by rfl) :
    PMk X (.Call (.Name x p) [e] [] pos) (tMkS C Z.fld te) := by
  intro pins s σ H Q I h
  obtain ⟨nm, q, N, bs, bm, sn, sub, ab, col, dd, k0, k1, k2, k3, k5, hC, hbm⟩ := S.o.cls
  have ha : PA X [e] (tCons te tNil) := pa_cons hp pa_nil he
  have h' : tCons te tNil σ H (fun vs H1 => match vs with | [y] => ∀ d, H1 d = none → Q (.ref C) (some d) (upd H1 d (.xd [(Z.fld, y)])) | _ => False) := h
  refine wpAny_Call_Name_kw (ld_glob I hg hm ?_ hdb)
  refine PySem.W.callWith_K (h₀ := X.base) I.ok.mod.kin S.o.kC (thn (ha.run pos pins s σ H _ I h') fun us s1 ⟨vs, H1, I1, r1, q1⟩ => ⟨I1.kIn, ?_⟩) he rfl
  obtain ⟨y, rfl⟩ : ∃ y, vs = [y] := by
    match vs, q1 with
    | [y], _ => exact ⟨y, rfl⟩
  obtain ⟨u, rfl, ry⟩ : ∃ u, us = [u] ∧ RelV y u := by
    cases r1 with
    | cons a t =>
      cases t with
      | nil => exact ⟨_, rfl, a⟩
  have q2 : ∀ d, H1 d = none → Q (.ref C) (some d) (upd H1 d (.xd [(Z.fld, y)])) := q1
  show wpAny _ _ (call (.ref C) [u]) _ _ _
  obtain ⟨hp, g, dr, tk, os⟩ := s1
  have kk : ∀ b o, hp.get? b = some o → ((hp.push (PySem.W.kdv_tup [u])).push (PySem.HandSPX.excO C hp.objs.size)).get? b = some o := fun b o e => Heap.get?_push_of_some _ (Heap.get?_push_of_some _ e)
  have hget : ((hp.push (PySem.W.kdv_tup [u])).push (PySem.HandSPX.excO C hp.objs.size)).get? (hp.objs.size + 1) = some (PySem.HandSPX.excO C hp.objs.size) := by heap_get
  have fresh : ∀ {b : Addr} {o : Obj}, hp.get? b = some o → b ≠ hp.objs.size + 1 := fun {b o} e => Nat.ne_of_lt (Nat.lt_succ_of_lt (Heap.lt_size e))
  have hn : H1 (hp.objs.size + 1) = none := I1.hok.fresh (Nat.le_succ _)
  refine wpAny_call (PySem.HandSPX.call_own F.excBase_ValueError (fun Y => PySem.HandSPX.refsVE_contains Y bm hbm) (I1.kIn _ _ hC) (PySem.W.looks_findIn I1.kIn S.iC) (fun self => PySem.W.bind_fn I1.kIn self S.tI) (by rw [sizeLine_eq]; show 1 ≤ _; decide)
    (sup_run ZO S I1.mod (fun b o e => kk b o (I1.bk b o e)) (fun b o e => fresh (I1.bk b o e)) (hr.make C [u] []).depth hget fun h2 tk2 dx t1 k2 dn dne hx hns => ?_))
  have sz : hp.objs.size ≤ dx := Nat.le_trans (Nat.le_trans (Nat.le_succ _) (Nat.le_of_lt (Heap.lt_size hget))) dn
  have hnd : H1 dx = none := I1.hok.fresh sz
  obtain ⟨G, g1, g2⟩ := restrict h2 fun b => decide (b ≠ hp.objs.size + 1)
  have gk : ∀ b, b ≠ hp.objs.size + 1 → G.get? b = h2.get? b := fun b hb => g1 b (decide_eq_true hb)
  have ge : G.get? (hp.objs.size + 1) = none := g2 _ (by simp)
  have hnG : G.Ns1 dx (fun y => if y = Z.fld then some u else none) := hns.at fun o y => (gk dx dne).trans y
  have J : Inv X pins σ (upd H1 dx (.xd [(Z.fld, y)])) ⟨G, g, dr, tk2, os⟩ := I1.laid (a := dx) (o := .xd [(Z.fld, y)]) (h' := G) (t' := tk2) (fun b o e => (gk b (fresh e)).trans (k2 b o (fresh e) (kk b o e))) sz ⟨_, hnG, relO_put (fs := []) ry fun g => True.intro⟩
  exact ⟨rfl, hp.objs.size + 1, _, _, ⟨G, g, dr, tk2, os⟩, _, .ref C, some dx, rfl, J, fun b o e => by
    by_cases hb : b = hp.objs.size + 1
    · rw [hb, ge] at e
      cases e
    · exact (gk b hb).symm.trans e, ge, hx, ⟨rfl, rfl⟩, rfl, rfl, by rw [upd_ne (Ne.symm dne)]; exact hn, rfl, I1.bare, raises_own S.o.exC S.o.tyC, q2 dx hnd⟩
end
end DL
set_option Elab.async false
set_option linter.all false
set_option maxRecDepth 100000
set_option maxHeartbeats 4000000
/-! DL, part j: exceptions: raise, try .. except that keeps what it caught, isinstance of it, its field. -/
namespace DL
open PySem PySem.Spec PyProof.Rows L2

/-! ### raise C(e) -/
def dRaise (c : Str) (a : Ev → Rz D) (e : Ev) : Rs := (a e).toS fun d e1 => .ex c d e1
/-- what the text says of an own exception class -/
structure ExcT (P : Program) (K : PySem.W.Frag) (mg : Str → Option Value) (c : Str) : Prop where
  at_ : ∃ (fI : Addr) (Z : SupD), Z.Ok ∧ SupC P K mg (He.ga K c) fI Z ∧ Z.fld = ("value" : Str)
  glob : mg c = some (.ref (He.ga K c))
section
variable {X : Cx} {W : WX} {p : Bool} {e : Expr} {te : TE} {de : Ev → Rz D} {pp cp pos : Pos} {k : Nat}
def tRaise (W : WX) (C : Addr) (te : TE) : TS := fun _ σ H => tMkS C "value" te σ H fun cls d H' => W cls d σ H'
theorem qs_raise (hc : X.calm = true) {c : Str} (T : ExcT X.prog X.K X.mg c) (hr : Room (k + 1) X.A) (tk : Takes X W) (h : QE X W p e te de) (hg : Gl X c := by rfl) (hdb : (c == ("__debug__" : Str)) = false := by decide)
    (he : starEach [e] X.env = (false, eval e X.env) :: starEach [] X.env := by rfl) : QS X W (.Raise (some (.Call (.Name c pp) [e] [] cp)) none pos) (tRaise W (He.ga X.K c) te) (dRaise c de) := by
  obtain ⟨fI, Z, ZO, S, zf⟩ := T.at_
  have pm := pmk_sup (p := pp) (pos := cp) ZO S hr hg T.glob h.pe hdb he
  rw [zf] at pm
  refine ⟨ps_raise hc tk pm, fun F S σ H env D E q => ?_⟩
  refine h.sim F S σ H env _ E (Rz.imp (toS_holds q) (fun d e1 q1 S1 H1 v s1 t1 E1 d1 => ?_) fun _ _ _ z => z)
  intro r hr
  have hS := none_of_same E1.sub hr
  have q2 : (Rs.ex c d e1).holds X.K F W S D := q1
  exact q2 (upd S1 r (.xd [("value", v)])) σ (upd H1 r (.xd [("value", v)])) _ (some r) (s1.trans (same_upd hS)) (E1.lay hr) ⟨rfl, r, v, rfl, upd_same, d1.mono (same_upd hS)⟩
end

/-! ### try: .. except C as n: .., the caught exception a datum within the suite and behind it -/
section
variable {X : Cx} {pins : List (Addr × Obj)} {σ : L2.St} {H : Hp} {s : Shared} {a : Addr}
theorem Inv.adopt {o : HO} (I : Inv X pins σ H s) (hn : H a = none) (h0 : X.s_0.heap.get? a = none) (nL : a ≠ X.env.locals) (nC : ∀ x c, X.env.cells.lookup x = some c → c ≠ a) (nP : ∀ q ∈ X.pn ++ pins, q.1 ≠ a) (new : ObjOk X.prog X.w (upd H a o) s.heap a o) :
    Inv X pins σ (upd H a o) s where
  ok := I.ok
  os := I.os
  bare := I.bare
  base := {
    keep := I.base.keep
    slot := I.base.slot
    free := fun b u q n hx => by
      rw [upd_ne (fun z => by rw [z, h0] at q; cases q)]
      exact I.base.free b u q n hx
    there := I.base.there
    tups := fun b xs q => by
      have z := I.base.tups b xs q
      rw [upd_ne (ne_of_none z hn)]
      exact z
    frzs := fun b u xs q => by
      have z := I.base.frzs b u xs q
      rw [upd_ne (ne_of_none z hn)]
      exact z
    tbls := fun b ps q => by
      obtain ⟨m, z⟩ := I.base.tbls b ps q
      exact ⟨m, by rw [upd_ne (ne_of_none z hn)]; exact z⟩ }
  loc := I.loc
  cell := I.cell
  free := by rw [upd_ne (Ne.symm nL)]; exact I.free
  freeC := fun x c e => by rw [upd_ne (nC x c e)]; exact I.freeC x c e
  pin := fun q hq => by
    obtain ⟨h1, h2, h3⟩ := I.pin q hq
    exact ⟨h1, by rw [upd_ne (nP q hq)]; exact h2, h3⟩
  hok := I.hok.laidN (fun _ _ z => z) hn new
  len := I.len
theorem Inv.toSuite (I : Inv X pins σ H s) : Inv (X.suite a (X.pn ++ pins)) [] σ H s where
  ok := I.ok.suite _ _
  os := I.os
  bare := I.bare
  base := I.base
  loc := I.loc
  cell := I.cell
  free := I.free
  freeC := I.freeC
  pin := fun q hq => I.pin q (by
    rw [List.append_nil] at hq
    exact hq)
  hok := I.hok
  len := I.len
theorem Inv.ofSuite {pn' : List (Addr × Obj)} (I : Inv (X.suite a (X.pn ++ pins)) pn' σ H s) (ok : X.Ok) : Inv X pins σ H s where
  ok := ok
  os := I.os
  bare := I.bare
  base := I.base
  loc := I.loc
  cell := I.cell
  free := I.free
  freeC := I.freeC
  pin := fun q hq => I.pin q (List.mem_append_left _ hq)
  hok := I.hok
  len := I.len
end
/-- the ends of a suite whose name goes -/
def gone (i : Nat) (D : Ends) : Ends := { nx := fun σ H => D.nx (σ.set i none) H, rt := D.rt, bk := fun σ H => D.bk (σ.set i none) H, ct := fun σ H => D.ct (σ.set i none) H }
def wGot (K : PySem.W.Frag) (c : Value) (i : Nat) (ts : TS) (Wout : WX) (D : Ends) : WX := fun cls d σ H =>
  ∃ b, PySem.W.exmOne K cls c = some b ∧ (b = true → ∀ a, H a = none → ∃ dd, d = some dd ∧ ts (gone i D) (σ.set i (some (.ref a))) (upd H a (ExH a cls dd))) ∧ (b = false → Wout cls d σ H)
def tTry (X : Cx) (c : Value) (i : Nat) (ts : TS) (Wout : WX) (tb : WX → TS) : TS := fun D σ H =>
  (∃ (pn : List (Addr × Obj)) (xe : Value → Shared → Prop), Takes (X.tr pn xe) (wGot X.K c i ts Wout D) ∧ PassesOwn (model X.prog X.w) X.A X.env xe) → tb (wGot X.K c i ts Wout D) D σ H
section
variable {X : Cx} {x n : Str} {c : Value} {i : Nat} {body suite : List Stmt} {b₀ : Stmt} {np pos pos' : Pos} {tb : WX → TS} {ts : TS} {Wout : WX}
theorem ps_try_got (hs : X.stack = X.env :: X.outer) (hf : X.env.frame = some X.env.locals) (hex : X.ex = []) (hN : X.N.Nodup) (hi : X.N[i]? = some n) (hln : X.env.kindOf n = some .local) (hc : Names X x c) (tk : Takes X Wout)
    (hb : ∀ (W : WX) (pn : List (Addr × Obj)) (xe : Value → Shared → Prop), Takes (X.tr pn xe) W → PassesOwn (model X.prog X.w) X.A X.env xe → PSs (X.tr pn xe) body (tb W))
    (hsu : ∀ (a : Addr) (pn : List (Addr × Obj)), PSs (X.suite a pn) (b₀ :: suite) ts) :
    PS X (.Try body [.ExceptHandler (some (.Name x np)) (some n) (b₀ :: suite) pos'] [] [] pos) (tTry X c i ts Wout tb) := by
  refine ⟨fun pins s σ H D I h0 => ?_⟩
  have ok := I.ok
  have frs_eq : X.A.frames = some (X.env :: X.outer) := by
    rw [ok.frames]
    exact congrArg some hs
  have hl : Loc X.env.scope n := .inl hln
  refine wpAny_Try_except ?_
  have caught : ∀ (u : Value) (s' : Shared), XE (X.tr (X.pn ++ pins) (fun e s₁ => wpAny (model X.prog X.w) X.A (noteFrame e X.env) (fun _ s₂ => wpAny (model X.prog X.w) X.A (setFlight e none)
      (fun _ s₃ => wpAny (model X.prog X.w) X.A (handleBy e X.env [.ExceptHandler (some (.Name x np)) (some n) (b₀ :: suite) pos']) (SP X pins D) X.xe s₃) X.xe s₂) X.xe s₁)) (wGot X.K c i ts Wout D) u s' →
      wpAny (model X.prog X.w) X.A (noteFrame u X.env) (fun _ s₂ => wpAny (model X.prog X.w) X.A (setFlight u none)
      (fun _ s₃ => wpAny (model X.prog X.w) X.A (handleBy u X.env [.ExceptHandler (some (.Name x np)) (some n) (b₀ :: suite) pos']) (SP X pins D) X.xe s₃) X.xe s₂) X.xe s' := by
    intro u s' xx
    obtain ⟨a, B, sI, pins', σ1, H1, cls, d, rfl, J0, nb, up, sky, na, os, ag, b, hb1, yes, no⟩ := xx
    have J : Inv X pins σ1 H1 sI := J0.ofTry ok
    have sky1 : Sky B (X.env :: X.outer) a (Zc cls d) X.env.locals s'.heap := by
      rw [← hs]
      exact sky
    refine Sky.land Zc.steady frs_eq hf sky1 fun h3 fl3 up3 => ?_
    have bn : B.get? a = none := fl3.2.1
    have J3 : Inv X pins σ1 H1 { s' with heap := h3 } := J.landed nb fl3.1 (up.trans up3) os ag
    obtain ⟨oe3, vs3, he3, hz3, hd3⟩ := fl3.there
    have nfr : a ∉ frs (X.env :: X.outer) := fun hm => by
      obtain ⟨_, o', e', hnf⟩ := fl3.2.2.1.mem hm
      rw [he3] at e'
      cases e'
      exact hnf _ hd3
    have nL : a ≠ X.env.locals := fun z => nfr (List.mem_filterMap.mpr ⟨X.env, List.mem_cons_self, by rw [hf, z]⟩)
    have nI : sI.heap.get? a = none := by
      cases z : sI.heap.get? a with
      | none => rfl
      | some o =>
        have y := nb a o z (by
          rw [show (X.tr (X.pn ++ pins) _).stack = X.env :: X.outer from hs]
          exact nfr)
        rw [bn] at y
        cases y
    have n0 : X.s_0.heap.get? a = none := by
      cases z : X.s_0.heap.get? a with
      | none => rfl
      | some o =>
        obtain ⟨o', y⟩ := J.base.there a o z (by rw [hex]; exact fun q => nomatch q)
        rw [nI] at y
        cases y
    have nP : ∀ q ∈ X.pn ++ pins, q.1 ≠ a := fun q hq z => by
      have y := (J.pin q hq).1
      rw [z, nI] at y
      cases y
    have nC : ∀ {h : Heap} {t : Nat}, Inv X pins σ1 H1 { s' with heap := h, toks := t } → ∀ {o : Obj} {vs : Array Value}, h.get? a = some o → o.data = .fields vs → ∀ y c, X.env.cells.lookup y = some c → c ≠ a := fun {h t} Jh {o vs} e dd y c hc z => by
      obtain ⟨v, hv⟩ := J.cell y c hc
      obtain ⟨o', e', _⟩ := hv
      rw [z, nI] at e'
      cases e'
    refine wpAny_handleBy_cons (codeAny_handlers_test ?_) (by intro q; cases q)
    have S3 : Inv (X.suite a (X.pn ++ pins)) [] σ1 H1 { s' with heap := h3 } := Inv.toSuite J3
    have LT : PySem.W.Looks (model X.prog X.w) h3 (typeOf (.ref a)) cls := fun A Q E s k q => wpAny_typeOf_ref (k _ _ he3) (by
      rw [hz3.1]
      exact q)
    have LM := PySem.W.exm_one (M := model X.prog X.w) J3.kIn LT hb1
    have test : ∀ {Q : Value → Shared → Prop} {E : Value → Shared → Prop}, Q c { s' with heap := h3 } → wpAny (model X.prog X.w) (X.A.mark (some (.ref a))) (eval (.Name x np) X.env) Q E { s' with heap := h3 } := fun {Q E} q => by
      obtain ⟨hg, hdbg, hm | ⟨hm, hv, hnn⟩⟩ := hc
      · exact ld_glob (X := X.suite a (X.pn ++ pins)) S3 hg hm q hdbg
      · exact ld_blt (X := X.suite a (X.pn ++ pins)) S3 hg hm hv q hnn hdbg
    refine test (LM.here ?_)
    cases b with
    | true =>
      obtain ⟨dd, ed, hrun⟩ := yes rfl a na
      subst ed
      refine codeAny_handlers_suite_as ?_
      refine HandSPX.lands_againZ fl3 fun h4 fl4 up4 => ?_
      have J4 : Inv X pins σ1 H1 { s' with heap := h4 } := J.landed nb fl4.1 ((up.trans up3).trans up4) os ag
      obtain ⟨oe4, vs4, he4, hz4, hd4⟩ := fl4.there
      have J5 : Inv X pins σ1 (upd H1 a (ExH a cls dd)) { s' with heap := h4 } := DL.Inv.adopt J4 na n0 nL (fun y c hc => nC (t := s'.toks) J4 he4 hd4 y c hc) nP
        ⟨⟨oe4, vs4, he4, hz4, hd4⟩, ⟨_, he4⟩, fun h1 h2 z k => by
          obtain ⟨o, vs, z1, z2, z3⟩ := z
          exact ⟨o, vs, k _ z1, z2, z3⟩⟩
      have S5 : Inv (X.suite a (X.pn ++ pins)) [] σ1 (upd H1 a (ExH a cls dd)) { s' with heap := h4 } := Inv.toSuite J5
      refine store_ok (X := X.suite a (X.pn ++ pins)) (v := .ref a) S5 hN hi hl rfl (fun s5 S6 => ?_) (.inr hln)
      refine wpAny_mono ((hsu a (X.pn ++ pins)).run [] s5 _ _ _ S6 hrun) (fun f s6 hsp => ?_) fun _ _ z => z.elim
      have fin : ∀ {σ6 : L2.St} {H6 : Hp} {Q : Shared → Prop}, Inv (X.suite a (X.pn ++ pins)) [] σ6 H6 s6 → (∀ s7, Inv X pins (σ6.set i none) H6 s7 → Q s7) →
          wpAny (model X.prog X.w) X.A (do bindName X.env n .none; unbindBehindTheSuite X.env n pos') (fun _ s7 => Q s7) X.xe s6 := fun {σ6 H6 Q} S7 hq => gone_ok (Inv.ofSuite S7 ok) hN hi hln hq
      cases f with
      | next =>
        obtain ⟨σ6, H6, S7, q6⟩ := hsp
        exact fin S7 fun s7 J7 => ⟨_, _, J7, q6⟩
      | brk =>
        obtain ⟨σ6, H6, S7, q6⟩ := hsp
        exact fin S7 fun s7 J7 => ⟨_, _, J7, q6⟩
      | cont =>
        obtain ⟨σ6, H6, S7, q6⟩ := hsp
        exact fin S7 fun s7 J7 => ⟨_, _, J7, q6⟩
      | ret u =>
        obtain ⟨v6, σ6, H6, S7, r6, q6⟩ := hsp
        exact fin S7 fun s7 J7 => ⟨_, _, _, J7, r6, q6⟩
    | false =>
      show wpAny _ X.A (handleBy (.ref a) X.env []) _ _ _
      refine wpAny_handleBy_nil ?_
      obtain ⟨k1, k2, k3, oe, vs, T, oT, ts', he, hz, hd, h1, hr⟩ := id fl3
      unfold PySem.passOn
      refine wpAny_bind (wpAny_field he hd h1 ?_)
      rw [if_neg (show ¬ ((Value.ref T == Value.none) = true) from by simp)]
      have out : wpAny (model X.prog X.w) X.A (setFlight (.ref a) X.env.frame) (fun _ s4 => wpAny (model X.prog X.w) X.A (throw (.ref a) : Sem Flow) (SP X pins D) X.xe s4) X.xe { s' with heap := h3 } := by
        rw [hf]
        refine HandSPX.setFlight_upZ fl3 fun h4 hh4 up4 => wpAny_throw (tk _ _ ?_)
        refine ⟨a, B, sI, pins, σ1, H1, cls, d, rfl, J, nb, (up.trans up3).trans up4, .inr (.inr ?_), na, os, ag, no rfl⟩
        rw [hs]
        exact hh4
      first
        | exact wpAny_bind (wpAny_pure (wpAny_bind out))
        | exact wpAny_bind out
  have h : tb (wGot X.K c i ts Wout D) D σ H := h0 ⟨X.pn ++ pins, _, caught, PassesOwn.looking⟩
  refine wpAny_mono ((hb (wGot X.K c i ts Wout D) (X.pn ++ pins) _ caught PassesOwn.looking).run [] s σ H D (I.toTry _) h) (fun f s1 hsp => ?_) (fun e s1 he => he)
  cases f with
  | next =>
    obtain ⟨σ1, H1, J1, q⟩ := hsp
    exact wpAny_execs_nil ⟨σ1, H1, J1.ofTry ok, q⟩
  | brk =>
    obtain ⟨σ1, H1, J1, q⟩ := hsp
    exact ⟨σ1, H1, J1.ofTry ok, q⟩
  | cont =>
    obtain ⟨σ1, H1, J1, q⟩ := hsp
    exact ⟨σ1, H1, J1.ofTry ok, q⟩
  | ret u =>
    obtain ⟨v, σ1, H1, J1, r, q⟩ := hsp
    exact ⟨v, σ1, H1, J1.ofTry ok, r, q⟩
end

/-- a suite whose name goes -/
def goneR (i : Nat) (r : Rs) : Rs := match r with
  | .nx e => (match put i .un e with | some e1 => .nx e1 | none => .no)
  | .bk e => (match put i .un e with | some e1 => .bk e1 | none => .no)
  | .ct e => (match put i .un e with | some e1 => .ct e1 | none => .no)
  | .rt d e => .rt d e
  | .rn xs e => .rn xs e
  | _ => .no
/-- try: a / except C as n: b; cf: which classes the clause takes -/
def dTry (cf : Str → Option Bool) (i : Nat) (a b : Ev → Rs) (e : Ev) : Rs := match a e with
  | .ex c x e1 => (match cf c with
    | some true => (match put i (.dat (.exn c x)) e1 with | some e2 => goneR i (b e2) | none => .no)
    | some false => .ex c x e1
    | none => .no)
  | r => r
section
variable {K : PySem.W.Frag} {F : Fm} {W W' : WX} {S : Hp} {D : Ends}
theorem gone_holds {i : Nat} {r : Rs} (h : (goneR i r).holds K F W S D) : r.holds K F W' S (gone i D) := by
  cases r with
  | nx e =>
    unfold goneR at h
    cases z : put i .un e with
    | none => simp only [z] at h; exact h.elim
    | some e1 => simp only [z] at h; exact fun S' σ H s E => h S' _ H s (E.putUn (o := none) z)
  | bk e =>
    unfold goneR at h
    cases z : put i .un e with
    | none => simp only [z] at h; exact h.elim
    | some e1 => simp only [z] at h; exact fun S' σ H s E => h S' _ H s (E.putUn (o := none) z)
  | ct e =>
    unfold goneR at h
    cases z : put i .un e with
    | none => simp only [z] at h; exact h.elim
    | some e1 => simp only [z] at h; exact fun S' σ H s E => h S' _ H s (E.putUn (o := none) z)
  | rt d e => exact h
  | rn d e => exact h
  | ex c x e => exact h.elim
  | no => exact h.elim
end
section
variable {X : Cx} {x n : Str} {i : Nat} {body suite : List Stmt} {b₀ : Stmt} {np pos pos' : Pos} {tb : WX → TS} {ts : TS} {Wout W1 : WX} {da db : Ev → Rs}
theorem qs_try (cf : Str → Option Bool) (hs : X.stack = X.env :: X.outer) (hf : X.env.frame = some X.env.locals) (hex : X.ex = []) (hN : X.N.Nodup) (hi : X.N[i]? = some n) (hln : X.env.kindOf n = some .local) {C : Addr} (hc : Names X x (.ref C)) (tk : Takes X Wout)
    (hcf : ∀ c b, cf c = some b → PySem.W.exmOne X.K (.ref (He.ga X.K c)) (.ref C) = some b)
    (b0 : ∀ (W : WX), Takes (X.tr [] (fun _ _ => True)) W → PassesOwn (model X.prog X.w) X.A X.env (fun _ _ => True) → QSs (X.tr [] (fun _ _ => True)) W body (tb W) da)
    (s0 : QSs (X.suite 0 []) W1 (b₀ :: suite) ts db)
    (hb : ∀ (pn : List (Addr × Obj)) (xe : Value → Shared → Prop) (W : WX), Takes (X.tr pn xe) W → PassesOwn (model X.prog X.w) X.A X.env xe → QSs (X.tr pn xe) W body (tb W) da)
    (hsu : ∀ (a : Addr) (pn : List (Addr × Obj)), QSs (X.suite a pn) W1 (b₀ :: suite) ts db) :
    QS X Wout (.Try body [.ExceptHandler (some (.Name x np)) (some n) (b₀ :: suite) pos'] [] [] pos) (tTry X (.ref C) i ts Wout tb) (dTry cf i da db) := by
  refine ⟨ps_try_got hs hf hex hN hi hln hc tk (fun W pn xe t p => (hb pn xe W t p).ps) (fun a pn => (hsu a pn).ps), fun F S σ H env D E q => ?_⟩
  rintro ⟨pn, xe, t, pa⟩
  refine (hb pn xe _ t pa).sim F S σ H env D E ?_
  unfold dTry at q
  cases z : da env with
  | nx e => rw [z] at q; exact q
  | rt d e => rw [z] at q; exact q
  | rn d e => rw [z] at q; exact q
  | bk e => rw [z] at q; exact q
  | ct e => rw [z] at q; exact q
  | no => rw [z] at q; exact q
  | ex c y e1 =>
    rw [z] at q
    intro S1 σ1 H1 cls d s1 E1 xo
    obtain ⟨rfl, d0, v, rfl, hd0, hv⟩ := xo
    cases hcc : cf c with
    | none => simp only [hcc] at q; exact q.elim
    | some b =>
      refine ⟨b, hcf c b hcc, fun hb1 a na => ?_, fun hb0 => ?_⟩
      · subst hb1
        simp only [hcc] at q
        cases hp : put i (.dat (.exn c y)) e1 with
        | none => simp only [hp] at q; exact q.elim
        | some e2 =>
          simp only [hp] at q
          have nS := none_of_same E1.sub na
          refine ⟨d0, rfl, s0.sim F _ _ _ e2 _ (EnvOk.putDat (E1.lay na) hp (.exn upd_same ?_ (hv.mono (same_upd nS)))) (gone_holds (Rs.mono (s1.trans (same_upd nS)) q))⟩
          rw [upd_ne (ne_of_none hd0 nS)]
          exact hd0
      · subst hb0
        simp only [hcc] at q
        exact q S1 σ1 H1 _ _ s1 E1 ⟨rfl, d0, v, rfl, hd0, hv⟩
end

/-! ### isinstance of an exception that is held -/
structure IsC (K : PySem.W.Frag) (C : Addr) : Prop where
  cl : (PySem.W.clsIn K C).isSome = true
  ga : PySem.W.findIn K (.ref C) "__getattribute__" = some (some (.builtin "BaseException.__getattribute__"))
  gt : PySem.W.findIn K (.ref C) "__getattr__" = some none
  sb : PySem.W.subIn K (.ref C) (.type "BaseException") = some true
  ca : PySem.W.findIn K (.ref C) "__class__" = some (some (.builtin "object.__class__"))
  sp : PySem.W.specialIn K (.builtin "object.__class__") "__get__" = some (some (.builtin "getset_descriptor.__get__"))
  tk : PySem.W.takesIn K (.builtin "object.__class__") = some true
  mr : PySem.W.mroIn K C (.type "object") = some true
def isCB (K : PySem.W.Frag) (C : Addr) : Bool := (PySem.W.clsIn K C).isSome && (decide (PySem.W.findIn K (.ref C) "__getattribute__" = some (some (.builtin "BaseException.__getattribute__"))) && (decide (PySem.W.findIn K (.ref C) "__getattr__" = some none) && (decide (PySem.W.subIn K (.ref C) (.type "BaseException") = some true) &&
  (decide (PySem.W.findIn K (.ref C) "__class__" = some (some (.builtin "object.__class__"))) && (decide (PySem.W.specialIn K (.builtin "object.__class__") "__get__" = some (some (.builtin "getset_descriptor.__get__"))) && (decide (PySem.W.takesIn K (.builtin "object.__class__") = some true) && decide (PySem.W.mroIn K C (.type "object") = some true)))))))
theorem isCB_ok {K : PySem.W.Frag} {C : Addr} (h : isCB K C = true) : IsC K C := by
  simp only [isCB, Bool.and_eq_true, decide_eq_true_eq] at h
  obtain ⟨a, b, c, d, e, f, g, i⟩ := h
  exact ⟨a, b, c, d, e, f, g, i⟩
def rIsX (K : PySem.W.Frag) : List V → Hp → VK → Prop := fun xs H Q => rIsi K xs H Q ∨
  ∃ (a dd C : Addr) (c : V) (u : Value) (fs : List (Str × V)) (b : Bool), xs = [.ref a, c] ∧ ClsV c u ∧ H a = some (ExH a (.ref C) dd) ∧ H dd = some (.xd fs) ∧ IsC K C ∧ PySem.W.kitOne K (.ref C) u = some b ∧ Q (.bl b) H
theorem exn_inst {P : Program} {w : World} {H : Hp} {h : Heap} {a dd C : Addr} {fs : List (Str × V)} (hok : HOk P w H h) (ha : H a = some (ExH a (.ref C) dd)) (hd : H dd = some (.xd fs)) :
    ∃ oe od mA, PySem.W.InstAt h a oe C (some od) ∧ h.Ns1 dd mA ∧ (∀ f, RelO (fs.lookup f) (mA f)) ∧ h.get? dd = some od := by
  obtain ⟨⟨oe, vs, he, hz, hv⟩, _⟩ := (show ObjOk P w H h a (.ext _) from hok a _ ha)
  obtain ⟨mA, hns, hr⟩ := (show ObjOk P w H h dd (.xd fs) from hok dd _ hd)
  obtain ⟨od, es, ep, ho, hq⟩ := id hns
  exact ⟨oe, od, mA, ⟨he, hz.1, by unfold PySem.W.notCls; rw [hv] <;> rfl, by rw [hz.2]; exact ho⟩, hns, hr, ho⟩
theorem call_isX {X : Cx} : CallR X (.builtin "isinstance") (rIsX X.K) := by
  intro pins s σ H xs us Q I r h
  rcases h with h | ⟨a, dd, C, c, u, fs, b, rfl, k, ha, hd, hc, e, q⟩
  · exact call_isi pins s σ H xs us Q I r h
  · obtain ⟨u1, u2, rfl, r1, r2⟩ := vals2 r
    have e2 := k.eq r2
    subst e2
    cases (show u1 = Value.ref a from r1)
    obtain ⟨oe, od, mA, J, _⟩ := exn_inst I.hok ha hd
    exact PySem.W.kia_one (PySem.W.kitx_exc hc.cl hc.ga hc.gt hc.sb hc.ca hc.sp hc.tk hc.mr) I.kIn J e (fun z => nomatch z) fun tk => ⟨.bl b, H, I.tok tk, rfl, q⟩
def fIsX (cf : Str → Option Bool) (f : D → Option D) (d : D) : Option D := match d with
  | .exn c _ => (cf c).map .bl
  | d => f d
/-- which exception classes are under u -/
def CfOk (K : PySem.W.Frag) (cf : Str → Option Bool) (u : Value) : Prop := ∀ c b, cf c = some b → IsC K (He.ga K c) ∧ PySem.W.kitOne K (.ref (He.ga K c)) u = some b
theorem ud_isX {K : PySem.W.Frag} {c : V} {u : Value} {cf : Str → Option Bool} {f : D → Option D} (hc : ClsV c u) (hcf : CfOk K cf u) (hf : UnD K (fun x H Q => rIsi K [x, c] H Q) f) : UnD K (fun x H Q => rIsX K [x, c] H Q) (fIsX cf f) := by
  intro H v x z Q hv h k
  cases hv with
  | @exn a dd c' v' x' e1 e2 e3 =>
    obtain ⟨b, h1, h2⟩ := Option.map_eq_some_iff.mp (show (cf c').map .bl = some z from h)
    subst h2
    obtain ⟨i1, i2⟩ := hcf c' b h1
    exact .inr ⟨a, dd, _, c, u, _, b, rfl, hc, e1, e2, i1, i2, k _ fun S => .bl _⟩
  | non => exact .inl (hf H _ _ z Q .non h k)
  | bl b => exact .inl (hf H _ _ z Q (.bl b) h k)
  | int i => exact .inl (hf H _ _ z Q (.int i) h k)
  | str y => exact .inl (hf H _ _ z Q (.str y) h k)
  | lst a b => exact .inl (hf H _ _ z Q (.lst a b) h k)
  | fro a b => exact .inl (hf H _ _ z Q (.fro a b) h k)
  | tup a b => exact .inl (hf H _ _ z Q (.tup a b) h k)
  | dic a b => exact .inl (hf H _ _ z Q (.dic a b) h k)
  | ins a b => exact .inl (hf H _ _ z Q (.ins a b) h k)
def fNever (_ : D) : Option D := none
theorem ud_never {K : PySem.W.Frag} {r : V → Hp → VK → Prop} : UnD K r fNever := fun _ _ _ _ _ _ h => by cases h
section
variable {X : Cx} {W : WX} {p : Bool} {x y : Str} {pp py pos : Pos} {a b : Expr} {ta : TE} {da : Ev → Rz D}
/-- isinstance(e, T), T built in -/
theorem b_isXb (n : String) (cf : Str → Option Bool) (hm : X.mg x = none) (ha : QE X W p a ta da) (hcf : CfOk X.K cf (.type n)) (hc : PE X b (tC (.ty n))) (hg : Gl X x := by rfl) (hv : bootBuiltins x = some (.builtin "isinstance") := by decide +kernel) (hn : x ≠ "__name__" := by decide) (hdb : (x == ("__debug__" : Str)) = false := by decide)
    (he : starEach [a, b] X.env = (false, eval a X.env) :: starEach [b] X.env := by rfl) (he2 : starEach [b] X.env = (false, eval b X.env) :: starEach [] X.env := by rfl) (hpl : (backTo pos (starEach [b] X.env)).any (·.1) = false := by rfl) :
    QE X W p (.Call (.Name x pp) [a, b] [] pos) (tCB (rIsX X.K) (tCons ta (tCons (tC (.ty n)) tNil))) (dUn (fIsX cf (fIsi n)) da) :=
  ⟨pe_callB call_isX hg hm hv (pa_cons ha.pe (pa_cons hc pa_nil he2) he) hn hdb he hpl, fun F => sim_un (ud_isX (.ty n) hcf (ud_isi n)) (ha.sim F)⟩
/-- isinstance(e, C), C an own class of exceptions; e an exception -/
theorem b_isXo (cf : Str → Option Bool) (hm : X.mg x = none) (ha : QE X W p a ta da) {C : Addr} (hcf : CfOk X.K cf (.ref C)) (hmy : X.mg y = some (.ref C)) (hgy : Gl X y := by rfl) (hdy : (y == ("__debug__" : Str)) = false := by decide) (hg : Gl X x := by rfl) (hv : bootBuiltins x = some (.builtin "isinstance") := by decide +kernel) (hn : x ≠ "__name__" := by decide) (hdb : (x == ("__debug__" : Str)) = false := by decide)
    (he : starEach [a, .Name y py] X.env = (false, eval a X.env) :: starEach [.Name y py] X.env := by rfl) (he2 : starEach [.Name y py] X.env = (false, eval (.Name y py) X.env) :: starEach [] X.env := by rfl) (hpl : (backTo pos (starEach [.Name y py] X.env)).any (·.1) = false := by rfl) :
    QE X W p (.Call (.Name x pp) [a, .Name y py] [] pos) (tCB (rIsX X.K) (tCons ta (tCons (tC (.ref C)) tNil))) (dUn (fIsX cf fNever) da) :=
  ⟨pe_callB call_isX hg hm hv (pa_cons ha.pe (pa_cons (pe_glob hgy hmy rfl hdy) pa_nil he2) he) hn hdb he hpl, fun F => sim_un (ud_isX (.own C) hcf ud_never) (ha.sim F)⟩
end

/-! ### the field of an exception that is held -/
def tVal (K : PySem.W.Frag) (f : Str) (te : TE) : TE := fun σ H Q => te σ H fun x H1 => ∃ (a dd C : Addr) (fs : List (Str × V)) (v : V), x = .ref a ∧ H1 a = some (ExH a (.ref C) dd) ∧ H1 dd = some (.xd fs) ∧ XfC K C ∧ PySem.W.findIn K (.ref C) f = some none ∧ fs.lookup f = some v ∧ Q v H1
def ValC (K : PySem.W.Frag) (C : Addr) : Prop := XfC K C ∧ PySem.W.findIn K (.ref C) "value" = some none
def dVal (ok : Str → Bool) (a : Ev → Rz D) (e : Ev) : Rz D := (a e).bind fun d e1 => match d with
  | .exn c x => if ok c = true then .ok x e1 else .no
  | _ => .no
section
variable {X : Cx} {W : WX} {p : Bool} {pos : Pos} {a : Expr} {te : TE} {da : Ev → Rz D}
theorem pe_val {n : Str} (he : PE X a te) (hb : attributeBase a n X.env (eval a X.env) = eval a X.env := by rfl) : PE X (.Attribute a n pos) (tVal X.K n te) := by
  refine ⟨fun pins s σ H Q I h => attr_of hb (thn (he.run pins s σ H _ I h) fun u s1 hh => ?_)⟩
  obtain ⟨x, H1, I1, rx, r, dd, C, fs, v, ex, e1, e2, T, hno, l, q⟩ := hh
  subst ex
  obtain rfl : u = Value.ref r := rx
  obtain ⟨oe, od, mA, J, hns, hr, ho⟩ := exn_inst I1.hok e1 e2
  obtain ⟨od2, ho2, hl⟩ := lookIn_ns hns
  obtain ⟨w, hu, rw'⟩ := RelO.some_of (v := v) (o := mA n) (by
    rw [← l]
    exact hr n)
  have eo : od2 = od := Option.some.inj (ho2.symm.trans ho)
  subst eo
  exact HandSPX.exc_get I1.kIn J T.ga T.gg T.exC (PySem.W.findObj_own T.hdC hno rfl (by rw [hl, hu])) (handed_of rw') ⟨v, H1, I1.tok _, rw', q⟩
theorem e_val (ok : Str → Bool) (hok : ∀ c, ok c = true → ValC X.K (He.ga X.K c)) (h : QE X W p a te da) (hb : attributeBase a "value" X.env (eval a X.env) = eval a X.env := by rfl) : QE X W p (.Attribute a "value" pos) (tVal X.K "value" te) (dVal ok da) := by
  refine ⟨pe_val h.pe hb, fun F S σ H env Q E q => ?_⟩
  refine h.sim F S σ H env _ E (Rz.imp (Rz.bind_holds q) (fun d e1 q1 S1 H1 v s1 t1 E1 d1 => ?_) fun _ _ _ z => z)
  cases d1 with
  | @exn r dd c w y e1' e2' e3' =>
    by_cases hz : ok c = true
    · obtain ⟨T, hno⟩ := hok c hz
      rw [show (match (D.exn c y) with | .exn c x => if ok c = true then Rz.ok x e1 else .no | _ => .no) = Rz.ok y e1 from if_pos hz] at q1
      exact ⟨r, dd, _, _, w, rfl, E1.sub _ _ e1', E1.sub _ _ e2', T, hno, rfl, q1 S1 H1 w s1 t1 E1 e3'⟩
    · rw [show (match (D.exn c y) with | .exn c x => if ok c = true then Rz.ok x e1 else .no | _ => .no) = Rz.no from if_neg hz] at q1
      exact q1.elim
  | non => exact q1.elim
  | bl _ => exact q1.elim
  | int _ => exact q1.elim
  | str _ => exact q1.elim
  | lst _ _ => exact q1.elim
  | fro _ _ => exact q1.elim
  | tup _ _ => exact q1.elim
  | dic _ _ => exact q1.elim
  | ins _ _ => exact q1.elim
end

/-! ### dict displays: nothing, one pair of numbers -/
section
variable {X : Cx} {W : WX} {p : Bool} {pos : Pos}
theorem upd_upd {H : Hp} {r : Addr} {o u : HO} : upd (upd H r o) r u = upd H r u := by
  funext b
  by_cases hb : b = r
  · rw [hb, upd_same, upd_same]
  · rw [upd_ne hb, upd_ne hb, upd_ne hb]
theorem e_dic0 : QE X W p (.Dict [] [] pos) tDNewK (dC (.dic [])) := by
  refine ⟨pe_dnewK, fun F S σ H env Q E q r hr => ?_⟩
  have hS := none_of_same E.sub hr
  exact q (upd S r (.dK [])) (upd H r (.dK [])) _ (same_upd hS) (fun _ => ⟨same_upd hr, fun b hb n => by rw [upd_ne (fun e => hb (by rw [e]; exact hr))]; exact n⟩) (E.lay hr) (.dic upd_same .nil)
theorem e_dic1 {k v : Expr} {i j : Int} (hk : PE X k (tC (.int i))) (hv : PE X v (tC (.int j))) : QE X W p (.Dict [some k] [v] pos) (tDisp [(tC (.int i), tC (.int j))]) (dC (.dic [(.inl i, .int j)])) := by
  refine ⟨pe_disp (pps_cons hk hv pps_nil) rfl rfl (by simp) (show 1 ≤ 15 by decide), fun F S σ H env Q E q r hr => ?_⟩
  have hS := none_of_same E.sub hr
  refine ⟨upd_same, [(.inl i, .int j)], rfl, show 1 ≤ 15 by decide, ?_⟩
  rw [upd_upd]
  exact q (upd S r (.dK [(.inl i, .int j)])) (upd H r (.dK [(.inl i, .int j)])) _ (same_upd hS) (fun _ => ⟨same_upd hr, fun b hb n => by rw [upd_ne (fun e => hb (by rw [e]; exact hr))]; exact n⟩) (E.lay hr) (.dic upd_same (.cons (.int j) .nil))
end
end DL
set_option Elab.async false
set_option linter.all false
set_option maxRecDepth 100000
set_option maxHeartbeats 4000000
/-! DL, part k: the head: a hook that tells the defs, the exception classes with their __init__, the module's facts; a law's end. -/
namespace DL
open PySem PySem.Spec PyProof.Rows L2

/-! ### the law's call -/
section
variable {P : Program} {w : World} {K : PySem.W.Frag} {mg mb : Str → Option Value} {k : Nat} {fa a : Addr} {fd : FuncData} {x : Str} {sp : Sp} {s₁ : Shared} {vs : List Value} {ns : List Int}
/-- from a heap in which nothing but the script may be tracked -/
theorem call_core {H : Hp} (KX : K.In s₁.heap) (hns : s₁.heap.Ns mainGlobals mg) (hb : s₁.heap.Ns builtinsNs mb) (hbb : ∀ x : Str, x ≠ "__name__" → mb x = bootBuiltins x) (hlim : s₁.heap.NoLimit) (hdig : s₁.heap.NoDigits) (hg : s₁.gens = #[])
    (ha : s₁.heap.get? a = some { cls := .type "list", data := .seq vs.toArray }) (hr : Room k callerA)
    (F : ∀ base : Heap, K.In base → base.Ns mainGlobals mg → base.NoDigits → FnG P w K mg base k fa fd [x] sp) (hbind : ∀ (s : Shared) (u : Value), BindsTo s fd ⟨[u], []⟩ [(x, u)])
    (hsp : sp [.ref a] H (fun v _ => v = .bl true) fun _ _ _ => False) (hO : Only H) (hok : HOk P w H s₁.heap) (hA : ∀ b, H b ≠ none → b = a) (hK : H a ≠ none → K.lookup a = none) :
    codeAny (model P w) callerA (.call (.ref fa) ⟨[.ref a], []⟩) (fun r s' => r = .ok (.ret (.bool true)) ∧ OldK s₁.heap s'.heap ∧ s'.os = s₁.os ∧ AllBare s'.gens) s₁ := by
  have low : ∀ {b : Addr} {o : Obj}, s₁.heap.get? b = some o → H b = none → (hidT s₁.heap H).get? b = some o := fun e n => hidT_get e n
  have dictFree : ∀ {b : Addr} {o : Obj} {es : Array DictEntry} {ep : Nat}, s₁.heap.get? b = some o → o.data = .dict es ep → H b = none := by
    intro b o es ep e d
    by_cases q : H b = none
    · exact q
    · rw [hA b q, ha] at e
      cases e
      cases (show Data.seq vs.toArray _ = Data.dict es ep from d)
  have lowNs : ∀ {b : Addr} {m : Str → Option Value}, s₁.heap.Ns b m → (hidT s₁.heap H).Ns b m := by
    rintro b m ⟨o, es, ep, e, d, r⟩
    exact ⟨o, es, ep, low e (dictFree e d), d, r⟩
  have hKb : K.In (hidT s₁.heap H) := by
    intro b o e
    refine low (KX b o e) ?_
    by_cases q : H b = none
    · exact q
    · have eb := hA b q
      subst eb
      rw [hK q] at e
      cases e
  obtain ⟨mc, l1, l2⟩ := hlim
  obtain ⟨md, d1, d2⟩ := hdig
  have hM : Mod K mg (hidT s₁.heap H) := ⟨hKb, lowNs hns, ⟨mb, lowNs hb, hbb⟩, ⟨mc, lowNs l1, l2⟩⟩
  have e0 : Env0 P w K mg (hidT s₁.heap H) callerA [] s₁ H :=
    ⟨rfl, hM, fun b o e => of_hidT e, Nat.le_of_eq (hidT_size _ _), trivial, fun b hb => (nomatch (show b ∈ ([] : List Addr) from hb)), hok, .of_eq hg⟩
  have G := F _ hKb (lowNs hns) ⟨md, lowNs d1, d2⟩
  refine codeAny_mono (G.run callerA [] s₁ H ⟨[.ref a], []⟩ [.ref a] [.ref a] _ _ rfl hr e0 (hbind s₁ (.ref a)) (.cons rfl .nil) hsp) fun r s' h => ?_
  cases r with
  | error e =>
    obtain ⟨_, _, _, _, _, _, _, _, _, _, _, _, _, _, _, _, z⟩ := h
  | ok fl =>
    cases fl with
    | next => exact False.elim h
    | brk => exact False.elim h
    | cont => exact False.elim h
    | ret u =>
      obtain ⟨v, H', os, bare, un, hok', r', q⟩ := h
      obtain rfl : v = .bl true := q
      obtain rfl : u = Value.bool true := r'
      refine ⟨rfl, OldK.of_keep fun b o e => ?_, os, bare⟩
      rcases hO b with z | ⟨ob, xs, z⟩
      · exact un.keep b o e z (fun y => nomatch (show b ∈ ([] : List Addr) from y)) (by simp)
      · obtain ⟨e1, _⟩ := hok b _ z
        obtain ⟨e2, _⟩ := hok' b _ (un.frzs b ob _ z)
        rw [e] at e1
        cases e1
        exact e2
end

section
variable {P : Program} {w : World} {K : PySem.W.Frag} {mg mb : Str → Option Value} {k : Nat} {fa a : Addr} {fd : FuncData} {x : Str} {sp : Sp} {s₁ : Shared} {vs : List Value} {ns : List Int}
theorem call_law (KX : K.In s₁.heap) (hns : s₁.heap.Ns mainGlobals mg) (hb : s₁.heap.Ns builtinsNs mb) (hbb : ∀ x : Str, x ≠ "__name__" → mb x = bootBuiltins x) (hlim : s₁.heap.NoLimit) (hdig : s₁.heap.NoDigits) (hg : s₁.gens = #[])
    (ha : s₁.heap.get? a = some { cls := .type "list", data := .seq vs.toArray }) (hi : IntsAre vs ns) (hl : ns.length ≤ sizeLine) (hr : Room k callerA)
    (F : ∀ base : Heap, K.In base → base.Ns mainGlobals mg → base.NoDigits → FnG P w K mg base k fa fd [x] sp) (hbind : ∀ (s : Shared) (u : Value), BindsTo s fd ⟨[u], []⟩ [(x, u)])
    (hsp : ∀ H : Hp, SqL K H a (ns.map V.int) → sp [.ref a] H (fun v _ => v = .bl true) fun _ _ _ => False) :
    codeAny (model P w) callerA (.call (.ref fa) ⟨[.ref a], []⟩) (fun r s' => r = .ok (.ret (.bool true)) ∧ OldK s₁.heap s'.heap ∧ s'.os = s₁.os ∧ AllBare s'.gens) s₁ := by
  have rv := vals_ints hi
  have lv := hi.length
  by_cases q : K.lookup a = none
  · let H : Hp := fun b => if b = a then some (.frz { cls := .type "list", data := .seq vs.toArray } (.lst (ns.map V.int))) else none
    have at_a : H a = some (.frz { cls := .type "list", data := .seq vs.toArray } (.lst (ns.map V.int))) := if_pos rfl
    have off : ∀ b, b ≠ a → H b = none := fun b hb => if_neg hb
    have hS : SqL K H a (ns.map V.int) := .inl (.inr ⟨_, at_a⟩)
    refine call_core (H := H) KX hns hb hbb hlim hdig hg ha hr F hbind (hsp H hS) (fun b => ?_) (fun b u z => ?_) (fun b z => ?_) fun _ => q
    · by_cases e : b = a
      · subst e
        exact .inr ⟨_, _, at_a⟩
      · exact .inl (off b e)
    · by_cases e : b = a
      · subst e
        rw [at_a] at z
        cases z
        exact ⟨ha, by rw [List.length_map]; exact hl, vs, _, rv, ha⟩
      · rw [off b e] at z
        cases z
    · by_cases e : b = a
      · exact e
      · exact absurd (off b e) z
  · obtain ⟨o, e⟩ := Option.ne_none_iff_exists'.mp q
    have z := KX a o e
    rw [ha] at z
    cases z
    have hS : SqL K (fun _ => none) a (ns.map V.int) := .inr ⟨_, vs.toArray, _, e, rfl, rfl, rfl, by rw [List.size_toArray, lv]; exact hl, by simpa using rv⟩
    exact call_core (H := fun _ => none) KX hns hb hbb hlim hdig hg ha hr F hbind (hsp _ hS) (fun _ => .inl rfl) (fun b u z => nomatch (show (none : Option HO) = some u from z)) (fun b z => absurd rfl z) fun z => absurd rfl z
/-- a law's end, the script's bits told -/
theorem walkGB {l : PySem.W.OpenLaw} {n : Nat} {q : Program} {loose : List Str} {XP : (Str → Option Value) → Heap → Prop} {YP : World → Heap → Prop} {d : DefRec} (hn : l.most = some n) (hn2 : n ≤ sizeLine) (hdf : d.params.defaults = []) (hr : Room k callerA)
    (F : ∀ (w : World) (mg : Str → Option Value) (fa : Addr) (h : Heap), YP w h → h.Ns mainGlobals mg → mg d.name = some (.ref fa) →
      ∃ (K : PySem.W.Frag) (fd : FuncData) (sp : Sp), K.In h ∧ (∀ (s : Shared) (u : Value), BindsTo s fd ⟨[u], []⟩ [(x, u)]) ∧
        (∀ (H : Hp) (a : Addr) (ns : List Int), ns.length ≤ n → (∀ i ∈ ns, Builtin.Int.intBits i ≤ 1048576) → SqL K H a (ns.map V.int) → sp [.ref a] H (fun v _ => v = .bl true) fun _ _ _ => False) ∧
        ∀ base : Heap, K.In base → base.Ns mainGlobals mg → base.NoDigits → FnG l.prog w K mg base k fa fd [x] sp) :
    PySem.W.WalkO q loose XP YP l.row.toRowW d [] (fun f vs => PySem.call f vs) := by
  refine Att.attach_callB hn hdf fun w s₀ s₁ mg mb fa o pm cd doc a vs ns G Y ho hd hcd hmg hobj hints hlen hbits hg => ?_
  obtain ⟨K, fd, sp, KX, hb, hsp, hF⟩ := F w mg fa _ Y G.T.g hmg
  exact call_law KX G.T.g G.T.b G.T.builtins G.T.nolimit G.T.nodigits hg hobj hints (Nat.le_trans hlen hn2) hr hF hb fun H hS => hsp H a ns hlen hbits hS
/-- a law's end -/
theorem walkG {l : PySem.W.OpenLaw} {n : Nat} {q : Program} {loose : List Str} {XP : (Str → Option Value) → Heap → Prop} {YP : World → Heap → Prop} {d : DefRec} (hn : l.most = some n) (hn2 : n ≤ sizeLine) (hdf : d.params.defaults = []) (hr : Room k callerA)
    (F : ∀ (w : World) (mg : Str → Option Value) (fa : Addr) (h : Heap), YP w h → h.Ns mainGlobals mg → mg d.name = some (.ref fa) →
      ∃ (K : PySem.W.Frag) (fd : FuncData) (sp : Sp), K.In h ∧ (∀ (s : Shared) (u : Value), BindsTo s fd ⟨[u], []⟩ [(x, u)]) ∧
        (∀ (H : Hp) (a : Addr) (ns : List Int), ns.length ≤ n → SqL K H a (ns.map V.int) → sp [.ref a] H (fun v _ => v = .bl true) fun _ _ _ => False) ∧
        ∀ base : Heap, K.In base → base.Ns mainGlobals mg → base.NoDigits → FnG l.prog w K mg base k fa fd [x] sp) :
    PySem.W.WalkO q loose XP YP l.row.toRowW d [] (fun f vs => PySem.call f vs) := by
  refine Att.attach_call hn hdf fun w s₀ s₁ mg mb fa o pm cd doc a vs ns G Y ho hd hcd hmg hobj hints hlen hg => ?_
  obtain ⟨K, fd, sp, KX, hb, hsp, hF⟩ := F w mg fa _ Y G.T.g hmg
  exact call_law KX G.T.g G.T.b G.T.builtins G.T.nolimit G.T.nodigits hg hobj hints (Nat.le_trans hlen hn2) hr hF hb fun H hS => hsp H a ns hlen hS
end

/-! ### the head's hook -/
abbrev FnS : Type := Option (Str × Str × Arguments × FuncBody × Scope × Addr × List Str × Addr)
/-- the __init__ of the class that the module calls x -/
def iAd (K : PySem.W.Frag) (x : Str) : Addr := He.ma K (He.ga K x) "__init__"
def fnS (K : PySem.W.Frag) (x : Str) : FnS := match K.lookup (iAd K x) with
  | some ⟨_, _, .func fd, _⟩ => some (fd.name, fd.qualname, fd.params, fd.body, fd.scope, fd.globals, fd.closure.map (·.1), fd.builtins)
  | _ => none
def SupD.val (Z : SupD) : FnS := some (Z.name, Z.qual, Z.params, .stmts Z.body, Z.scope, mainGlobals, ["__class__"], builtinsNs)
def clsB (K : PySem.W.Frag) (C : Addr) : Bool := match K.lookup C with
  | some ⟨.type t, _, .cls cd, sl⟩ => decide (t = "type") && (match cd.mro, sl.toList with
    | .ref C' :: bm, [_, _, _, _, some (.builtin n), _] => decide (C' = C) && (decide (n = "ValueError.__new__") && (!cd.hasDel && (cd.hasDict && HandSPX.refsVE bm)))
    | _, _ => false)
  | _ => false
def fnB (file : Str) (K : PySem.W.Frag) (C f : Addr) (qual : Str) : Bool := match K.lookup f with
  | some ⟨_, _, .func fd, _⟩ => (match fd.defaults with
    | .ref T => (match K.lookup T with
      | some ⟨_, _, .seq its _, _⟩ => decide (its.size = 1)
      | _ => false)
    | _ => false) && (match fd.code, fd.closure with
    | .ref cda, [(_, cc)] => PySem.W.codeIn K (.ref cda) qual && ((match K.lookup cda with
      | some ⟨_, _, .fields vs, _⟩ => (match (vs[2]? : Option Value) with
        | some (Value.str g _) => file == g
        | _ => false)
      | _ => false) && (match K.lookup cc with
        | some ⟨_, _, .cell (some (.ref D)), _⟩ => decide (D = C)
        | _ => false))
    | _, _ => false)
  | _ => false
def alongB (K : PySem.W.Frag) (C : Addr) : Bool := match PySem.W.clsIn K C with
  | some cd => decide (PySem.W.alongIn K "__init__" ((cd.mro.dropWhile (· != .ref C)).drop 1) = some (some (.builtin "ValueError.__init__")))
  | none => false
/-- what the written part must say of the class x of exceptions -/
def supB (file : Str) (K : PySem.W.Frag) (x : Str) (Z : SupD) : Bool :=
  clsB K (He.ga K x) && (decide (PySem.W.findIn K (.ref (He.ga K x)) "__setattr__" = some (some (.builtin "object.__setattr__"))) && (decide (PySem.W.subIn K (.ref (He.ga K x)) (.type "BaseException") = some true) && (decide (PySem.W.typeIn K (.ref (He.ga K x)) = some (.type "type")) &&
  (PySem.W.keepIn K (.ref (He.ga K x)) && (decide (PySem.W.findIn K (.ref (He.ga K x)) "__init__" = some (some (.ref (iAd K x)))) && (decide (PySem.W.typeIn K (.ref (iAd K x)) = some (.type "function")) && (alongB K (He.ga K x) &&
  (decide (PySem.W.mroIn K (He.ga K x) (.ref (He.ga K x)) = some true) && (decide (PySem.W.subIn K (.ref (He.ga K x)) (.type "ValueError") = some true) && (decide (PySem.W.nsIn K cStatics "thirdparty.any" = some none) && (decide (PySem.W.findIn K (.ref (He.ga K x)) Z.fld = some none) &&
  fnB file K (He.ga K x) (iAd K x) Z.qual)))))))))))
theorem clsB_ok {K : PySem.W.Frag} {C : Addr} (h : clsB K C = true) : ∃ nm q N bs bm sn sub ab col dd k0 k1 k2 k3 k5, K.lookup C = some (excClassObj nm q C N bs bm true sn sub ab col dd k0 k1 k2 k3 k5 "ValueError.__new__") ∧ PySem.HandSPX.refsVE bm = true := by
  unfold clsB at h
  split at h
  · rename_i t dd cd sl ho
    obtain ⟨h1, h2⟩ := He.ba h
    split at h2
    · rename_i C' bm k0 k1 k2 k3 n k5 hm hs
      simp only [Bool.and_eq_true, decide_eq_true_eq, Bool.not_eq_true'] at h1 h2
      obtain ⟨rfl, rfl, hdel, hdct, hv⟩ := h2
      subst h1
      obtain ⟨nm, bs, mro, ns, qn, hd, sn, sub, ab, col, del⟩ := cd
      dsimp only at hm hdel hdct
      subst hm hdel hdct
      obtain ⟨l⟩ := sl
      dsimp only at hs
      subst hs
      exact ⟨nm, qn, ns, bs, bm, sn, sub, ab, col, dd, k0, k1, k2, k3, k5, ho, hv⟩
    · cases h2
  · cases h
/-- .. with what is seen of the text itself -/
structure SupT (P : Program) (Z : SupD) : Prop where
  ok : Z.Ok
  bnd : ∀ (T : Addr) (kV doc pm cd ct : Value) (an : Option Addr) (cc : Addr) (a u i : Value), ∃ k, bindArgs (PySem.W.ksFn Z.name Z.qual Z.params Z.body Z.scope (.ref T) kV doc pm an cd ct cc) ⟨[a, u], []⟩ = seqItems? (.ref T) >>= k ∧ k (some #[i]) = pure [(Z.self, a), (Z.arg, u)]
  top : (P.main.scope.names.lookup ("super" : Str)).isSome = false
theorem supC_of {P : Program} {K : PySem.W.Frag} {mg : Str → Option Value} {x : Str} {Z : SupD} (h : supB P.main.file K x Z = true) (e : fnS K x = Z.val) (T : SupT P Z) (hm : mg "super" = none) : SupC P K mg (He.ga K x) (iAd K x) Z := by
  simp only [supB, Bool.and_eq_true, decide_eq_true_eq] at h
  obtain ⟨h1, h2, h3, h4, h5, h6, h7, h8, h9, h10, h11, h12, h13⟩ := h
  refine ⟨⟨clsB_ok h1, h2, h3, h4, h5⟩, ?_, h6, h7, ?_, h9, h10, h11, h12, hm, T.top⟩
  · unfold fnS at e
    unfold fnB at h13
    cases q : K.lookup (iAd K x) with
    | none =>
      rw [q] at e
      cases e
    | some o =>
      obtain ⟨oc, od, dt, osl⟩ := o
      rw [q] at e h13
      cases dt with
      | func fd =>
        obtain ⟨n1, n2, n3, n4, n5, n6, n7, n8, n9, n10, n11, n12, n13, n14, n15⟩ := fd
        dsimp only at h13
        obtain ⟨hT, h13⟩ := He.ba h13
        split at h13
        · rename_i cda z cc h0
          have e2 : (some (n1, n2, n3, n4, n5, n6, [z], n15) : FnS) = (some (Z.name, Z.qual, Z.params, FuncBody.stmts Z.body, Z.scope, mainGlobals, [("__class__" : Str)], builtinsNs) : FnS) := e
          simp only [Option.some.injEq, Prod.mk.injEq, List.cons.injEq] at e2
          obtain ⟨g1, g2, g3, g4, g5, g6, ⟨g7, _⟩, g8⟩ := e2
          subst g1 g2 g3 g4 g5 g6 g7 g8
          obtain ⟨b1, b2⟩ := He.ba h13
          obtain ⟨b3, b4⟩ := He.ba b2
          refine ⟨oc, od, osl, n8, n9, n10, n11, n14, n12, cda, cc, rfl, b1, ?_, ?_, fun s a u X => ?_⟩
          · split at b3
            · rename_i ccl cdd vs ccs hc
              split at b3
              · rename_i g tf hv
                exact ⟨ccl, cdd, vs, ccs, g, tf, hc, hv, b3⟩
              · cases b3
            · cases b3
          · split at b4
            · rename_i cl cld D csl hc
              have eD := of_decide_eq_true b4
              subst eD
              exact ⟨cl, cld, csl, hc⟩
            · cases b4
          · split at hT
            · rename_i TT
              split at hT
              · rename_i oc2 od2 its m sl2 hl2
                have hz := of_decide_eq_true hT
                obtain ⟨l⟩ := its
                obtain ⟨i, rfl⟩ : ∃ i, l = [i] := by
                  match l, hz with
                  | [i], _ => exact ⟨i, rfl⟩
                obtain ⟨k, e1, e2⟩ := T.bnd TT n9 n10 n11 (.ref cda) n14 n12 cc a u i
                refine BindsTo.of_looks fun M => ?_
                rw [e1]
                exact looks_items X hl2 rfl (.of_pure e2)
              · cases hT
            · cases hT
        · cases h13
      | _ => cases e
  · unfold alongB at h8
    split at h8
    · rename_i cd hc
      exact ⟨cd, hc, of_decide_eq_true h8⟩
    · cases h8
abbrev AlE : Type := He.AlD × List FnS × Bool
def kE (g : Addr → Option Obj) (n : Nat) : PySem.W.Frag := He.frG g (He.asD g n ++ [cStatics])
def obsE (n : Nat) (fa : List He.Fa) (fn : List He.DefD) (es : List (Str × SupD)) (ex : PySem.W.Frag → Bool) (g : Addr → Option Obj) : AlE := (He.obsD fa fn (kE g n), es.map fun q => fnS (kE g n) q.1, ex (kE g n))
def valE (fn : List He.DefD) (es : List (Str × SupD)) : AlE := (He.valD fn, es.map fun q => q.2.val, true)
structure SaysE (fa : List He.Fa) (fn : List He.DefD) (es : List (Str × SupD)) (ex : PySem.W.Frag → Bool) (K : PySem.W.Frag) : Prop where
  d : He.SaysD fa fn K
  s : ∀ q ∈ es, fnS K q.1 = q.2.val
  ex : ex K = true
theorem map_eq_all {α β : Type} {f g : α → β} : ∀ {l : List α}, l.map f = l.map g → ∀ x ∈ l, f x = g x
  | [], _, x, h => nomatch h
  | a :: l, e, x, h => by
    rw [List.map_cons, List.map_cons, List.cons.injEq] at e
    rcases List.mem_cons.mp h with rfl | h
    · exact e.1
    · exact map_eq_all e.2 x h
def hookE (n : Nat) (fa : List He.Fa) (fn : List He.DefD) (es : List (Str × SupD)) (ex : PySem.W.Frag → Bool) : PySem.W.Hook where
  α := AlE
  obs := fun s => obsE n fa fn es ex s.heap.get?
  val := fun _ => valE fn es
  says := fun _ h => ∃ K : PySem.W.Frag, K.In h ∧ SaysE fa fn es ex K
  of := fun _ _ e => ⟨_, He.frG_in, congrArg (fun z : AlE => z.1) e, map_eq_all (congrArg (fun z : AlE => z.2.1) e), congrArg (fun z : AlE => z.2.2) e⟩
  keeps := fun _ _ _ ⟨K, hK, c⟩ k => ⟨K, PySem.W.Frag.In.keeps hK k, c⟩
theorem obsE_eq {n : Nat} {fa : List He.Fa} {fn : List He.DefD} {es : List (Str × SupD)} {ex : PySem.W.Frag → Bool} {g : Addr → Option Obj} {s : Shared} (h : ∀ a, g a = s.heap.get? a) : obsE n fa fn es ex g = (hookE n fa fn es ex).obs s := by
  have e : g = s.heap.get? := funext h
  subst e
  rfl

/-! ### a def's fact from its promise -/
section
variable {P : Program} {w : World} {K : PySem.W.Frag} {mg : Str → Option Value} {base : Heap} {x qual : Str} {params : Arguments} {body : List Stmt} {scope : Scope} {kws : List (Str × V)} {f : Addr} {fd : FuncData} {ps : List Str} {k : Nat} {sp : Sp}
theorem def_of (F : FunD K x qual params body scope [] kws f fd) (G : FnG P w K mg base k f fd ps sp) (hm : mg x = some (.ref f))
    (h : ∀ (kV doc pm : Value) (an : Option Addr) (cdv ct : Value) (us : List Value), us.length = ps.length → bindArgs (PySem.W.fnOf x qual params body scope .none kV doc pm an cdv ct) ⟨us, []⟩ = pure (ps.zip us)) : Def P w K mg base k x ps sp :=
  ⟨f, fd, G, hm, F.kp, F.bindsN h⟩
theorem bindsR (F : FunD K x qual params body scope [] kws f fd)
    (h : ∀ (kV doc pm : Value) (an : Option Addr) (cdv ct : Value) (us : List Value), us.length = ps.length → bindArgs (PySem.W.fnOf x qual params body scope .none kV doc pm an cdv ct) ⟨[], ps.reverse.zip us⟩ = pure (ps.zip us.reverse)) (s : Shared) (us : List Value) (hl : us.length = ps.length) :
    BindsTo s fd ⟨[], ps.reverse.zip us⟩ (ps.zip us.reverse) := by
  obtain ⟨oc, od, dV, kV, doc, pm, an, cdv, ct, osl, rfl, lk, hcd, hD, hK⟩ := F.ex
  rcases hD with ⟨_, rfl⟩ | ⟨e, _⟩
  · exact BindsTo.of_eq (h kV doc pm an cdv ct us hl)
  · exact absurd rfl e
theorem defR_of (F : FunD K x qual params body scope [] kws f fd) (G : FnG P w K mg base k f fd ps sp) (hm : mg x = some (.ref f))
    (h : ∀ (kV doc pm : Value) (an : Option Addr) (cdv ct : Value) (us : List Value), us.length = ps.length → bindArgs (PySem.W.fnOf x qual params body scope .none kV doc pm an cdv ct) ⟨[], ps.reverse.zip us⟩ = pure (ps.zip us.reverse)) : DefR P w K mg base k x ps sp :=
  ⟨f, fd, G, hm, F.kp, fun s us hl => bindsR F h s us hl⟩
theorem exB {l : List Bool} (h : (l.all fun b => b) = true) (i : Nat) {b : Bool} (e : l[i]? = some b) : b = true := List.all_eq_true.mp h b (List.mem_of_getElem? e)
end
/-! ### the law's promise, from what it computes -/
theorem sp_law {K : PySem.W.Frag} {F : List D → Fz} {ns : List Int} {H : Hp} {a : Addr} (h : F [.fro (ns.map .int)] = .ok (.bl true)) (hS : SqL K H a (ns.map V.int)) : spP K 1 F [.ref a] H (fun v _ => v = .bl true) fun _ _ _ => False := by
  have all : ∀ ns : List Int, DtAll K H (ns.map V.int) (ns.map D.int) := by
    intro ns
    induction ns with
    | nil => exact .nil
    | cons n r ih => exact .cons (.int n) ih
  refine ⟨rfl, H, [.fro (ns.map .int)], Same.refl _, .cons (.fro hS (all ns)) .nil, ?_⟩
  rw [h]
  intro S' H' v _ _ _ _ hv
  cases hv
  rfl
end DL
set_option Elab.async false
set_option linter.all false
set_option maxRecDepth 100000
set_option maxHeartbeats 4000000
/-! DM: what a def computes, step by step, on data that are partly unknown: one rule for each form; the results are found by unification. -/
namespace DL
open PySem PySem.Spec PyProof.Rows L2
section
variable {α : Type} {a b c : Ev → Rz D} {da db : Ev → Rz (List D)} {ta tb : Ev → Rz Bool} {e e1 e2 e3 : Ev} {x y z d : D} {xs ys zs ds : List D} {i j n m : Nat} {f : D → D → Option D} {g : D → Option D} {r r' : Rs} {u v : Bool}
theorem z_var (h : e[i]? = some (.dat d)) : dVar i e = .ok d e := by unfold dVar; rw [h]
theorem z_see {o : Bool} (h : e[i]? = some (.own o xs)) : dSee i e = .ok (.lst xs) e := by unfold dSee; rw [h]
theorem z_fix (h : e[i]? = some (.own false xs)) (h2 : e.set i (.dat (.lst xs)) = e1) : dFix i e = .ok (.lst xs) e1 := by unfold dFix; rw [h, ← h2]
theorem z_c : dC d e = .ok d e := rfl
theorem z_op (h1 : a e = .ok x e1) (h2 : b e1 = .ok y e2) (h3 : f x y = some z) : dOp f a b e = .ok z e2 := by unfold dOp; rw [h1]; show (b e1).bind _ = _; rw [h2]; show oz (f x y) e2 = _; rw [h3]; rfl
theorem z_un (h1 : a e = .ok x e1) (h3 : g x = some z) : dUn g a e = .ok z e1 := by unfold dUn; rw [h1]; show oz (g x) e1 = _; rw [h3]; rfl
theorem z_nil : dNil e = .ok [] e := rfl
theorem z_cons (h1 : a e = .ok x e1) (h2 : db e1 = .ok xs e2) : dCons a db e = .ok (x :: xs) e2 := by unfold dCons; rw [h1]; show (db e1).bind _ = _; rw [h2]; rfl
theorem z_bi {k : List D → Option D} (h1 : da e = .ok xs e1) (h2 : k xs = some z) : dBi k da e = .ok z e1 := by unfold dBi; rw [h1]; show oz (k xs) e1 = _; rw [h2]; rfl
theorem z_ofN (h1 : da e = .ok xs e1) : dOfN da e = .ok (.lst xs) e1 := by unfold dOfN; rw [h1]; rfl
theorem z_lst (h1 : da e = .ok xs e1) (h2 : xs.length ≤ 1000000) : dLstE da e = .ok xs e1 := by unfold dLstE; rw [h1]; exact if_pos h2
theorem z_tup (h1 : da e = .ok xs e1) (h2 : xs.length ≤ 1000000) : dTupE da e = .ok (.tup xs) e1 := by unfold dTupE; rw [h1]; exact if_pos h2
theorem z_listOf (h1 : da e = .ok [.lst xs] e1) : dListOf da e = .ok xs e1 := by unfold dListOf; rw [h1]; rfl
theorem z_listSee {o : Bool} (h : e[i]? = some (.own o xs)) : dListSee i e = .ok xs e := by unfold dListSee onI; rw [h]
theorem z_rev (h1 : da e = .ok xs e1) (h2 : xs.reverse = ys) : dRevA da e = .ok ys e1 := by unfold dRevA; rw [h1, ← h2]; rfl
theorem z_cat (h1 : a e = .ok (.lst xs) e1) (h2 : b e1 = .ok (.lst ys) e2) (h3 : xs.length + ys.length ≤ 1000000) : dCat a b e = .ok (xs ++ ys) e2 := by unfold dCat; rw [h1]; show (b e1).bind _ = _; rw [h2]; show oz (if xs.length + ys.length ≤ 1000000 then some (xs ++ ys) else none) e2 = _; rw [if_pos h3]; rfl
theorem z_tst (h1 : a e = .ok (.bl u) e1) : dTst a e = .ok u e1 := by unfold dTst; rw [h1]; rfl
theorem z_notT (h1 : ta e = .ok u e1) : dNotT ta e = .ok (!u) e1 := by unfold dNotT; rw [h1]; rfl
theorem z_andT {w : Rz Bool} (h1 : ta e = .ok u e1) (h2 : (if u = true then tb e1 else .ok false e1) = w) : dAndT ta tb e = w := by unfold dAndT; rw [h1, ← h2]; rfl
theorem z_orT {w : Rz Bool} (h1 : ta e = .ok u e1) (h2 : (if u = true then .ok true e1 else tb e1) = w) : dOrT ta tb e = w := by unfold dOrT; rw [h1, ← h2]; rfl
theorem z_and1 {w : Rz D} (h1 : a e = .ok (.bl true) e1) (h2 : b e1 = w) : dAnd a b e = w := by unfold dAnd; rw [h1, ← h2]; rfl
theorem z_and0 (h1 : a e = .ok (.bl false) e1) : dAnd a b e = .ok (.bl false) e1 := by unfold dAnd; rw [h1]; rfl
theorem z_or1 (h1 : a e = .ok (.bl true) e1) : dOr a b e = .ok (.bl true) e1 := by unfold dOr; rw [h1]; rfl
theorem z_or0 {w : Rz D} (h1 : a e = .ok (.bl false) e1) (h2 : b e1 = w) : dOr a b e = w := by unfold dOr; rw [h1, ← h2]; rfl
theorem z_not (h1 : a e = .ok (.bl u) e1) : dNot a e = .ok (.bl (!u)) e1 := by unfold dNot; rw [h1]; rfl
theorem z_ifE {w : Rz D} (h1 : ta e = .ok u e1) (h2 : (if u = true then a e1 else b e1) = w) : dIfE ta a b e = w := by unfold dIfE; rw [h1, ← h2]; rfl
theorem z_call {F : List D → Fz} (h1 : da e = .ok xs e1) (h2 : F xs = .ok d) : dCall F da e = .ok d e1 := by unfold dCall; rw [h1]; show ofF (F xs) e1 = _; rw [h2]; rfl
theorem z_callW {F : List D → Fz} (h1 : da e = .ok xs e1) (h2 : F xs = .nw ys) : dCall F da e = .ok (.lst ys) e1 := by unfold dCall; rw [h1]; show ofF (F xs) e1 = _; rw [h2]; rfl
theorem z_callX {F : List D → Fz} {q : Str} (h1 : da e = .ok xs e1) (h2 : F xs = .ex q d) : dCall F da e = .ex q d e1 := by unfold dCall; rw [h1]; show ofF (F xs) e1 = _; rw [h2]; rfl
theorem z_callN {F : List D → Fz} (h1 : da e = .ok xs e1) (h2 : F xs = .nw ys) : dCallN F da e = .ok ys e1 := by unfold dCallN; rw [h1]; show ofFN (F xs) e1 = _; rw [h2]; rfl
theorem z_callR {F : List D → Fz} (h1 : da e = .ok xs e1) (h2 : F xs = .ok d) (h3 : isSc d = true) : dCallR F da e = .ok d e1 := by unfold dCallR; rw [h1]; show ofFR (F xs) e1 = _; rw [h2]; exact if_pos h3
theorem z_callRN {F : List D → Fz} (h1 : da e = .ok xs e1) (h2 : F xs = .nw ys) (h3 : ys.all isSc = true) : dCallRN F da e = .ok ys e1 := by unfold dCallRN; rw [h1]; show ofFRN (F xs) e1 = _; rw [h2]; exact if_pos h3
theorem z_callI {F : List D → List D → Iz} {o o' : Bool} (h0 : e[i]? = some (.own o xs)) (h1 : da e = .ok ds e1) (h2 : e1[i]? = some (.own o' ys)) (h3 : F ys ds = .ok d zs) (h4 : e1.set i (.own o' zs) = e2) : dCallI i F da e = .ok d e2 := by
  unfold dCallI onI; rw [h0]; show (da e).bind _ = _; rw [h1]; show (match e1[i]? with | some (.own a xs) => ofI (F xs ds) i a e1 | _ => .no) = _; rw [h2]; show ofI (F ys ds) i o' e1 = _; rw [h3, ← h4]; rfl
theorem z_callIW {F : List D → List D → Iz} {o o' : Bool} {ws : List D} (h0 : e[i]? = some (.own o xs)) (h1 : da e = .ok ds e1) (h2 : e1[i]? = some (.own o' ys)) (h3 : F ys ds = .nw ws zs) (h4 : e1.set i (.own o' zs) = e2) : dCallI i F da e = .ok (.lst ws) e2 := by
  unfold dCallI onI; rw [h0]; show (da e).bind _ = _; rw [h1]; show (match e1[i]? with | some (.own a xs) => ofI (F xs ds) i a e1 | _ => .no) = _; rw [h2]; show ofI (F ys ds) i o' e1 = _; rw [h3, ← h4]; rfl
theorem z_callT {F : List D → List D → Iz} (h1 : da e = .ok xs e1) (h2 : db e1 = .ok ds e2) (h3 : F xs ds = .ok d zs) : dCallT F da db e = .ok d e2 := by
  unfold dCallT; rw [h1]; show (db e1).bind _ = _; rw [h2]; show ofT (F xs ds) e2 = _; rw [h3]; rfl
theorem z_slL {l h : Ev → Rz (Option Int)} {lo hi : Option Int} (h1 : a e = .ok (.lst xs) e1) (h2 : l e1 = .ok lo e2) (h3 : h e2 = .ok hi e3) : dSlL a l h e = .ok (cutD xs lo hi) e3 := by
  unfold dSlL; rw [h1]; show (l e1).bind _ = _; rw [h2]; show (h e2).bind _ = _; rw [h3]; rfl
theorem z_slF {l h : Ev → Rz (Option Int)} {lo hi : Option Int} (h1 : a e = .ok (.fro xs) e1) (h2 : l e1 = .ok lo e2) (h3 : h e2 = .ok hi e3) : dSlL a l h e = .ok (cutD xs lo hi) e3 := by
  unfold dSlL; rw [h1]; show (l e1).bind _ = _; rw [h2]; show (h e2).bind _ = _; rw [h3]; rfl
theorem z_noP : dNoP e = .ok none e := rfl
theorem z_part {k : Int} (h1 : a e = .ok (.int k) e1) : dPart a e = .ok (some k) e1 := by unfold dPart; rw [h1]; rfl
theorem z_rng1 {k : Int} (h1 : da e = .ok [.int k] e1) (h2 : -1000000 ≤ k ∧ k ≤ 1000000) : dRng1 da e = .ok (rngD 0 k.toNat) e1 := by unfold dRng1; rw [h1]; exact if_pos h2
theorem z_enumL (h1 : da e = .ok [.lst xs] e1) : dEnum da e = .ok (enumD 0 xs) e1 := by unfold dEnum; rw [h1]; rfl
theorem z_items (h1 : a e = .ok (.lst xs) e1) : dItems a e = .ok xs e1 := by unfold dItems; rw [h1]; rfl
/-! statements -/
theorem s_seq (h1 : r = .nx e1) {k : Ev → Rs} (h2 : k e1 = r') : r.next k = r' := by rw [h1]; exact h2
theorem q_seq {A B : Ev → Rs} (h1 : A e = .nx e1) (h2 : B e1 = r) : dSeq A B e = r := by unfold dSeq; rw [h1]; exact h2
theorem q_seqR {A B : Ev → Rs} (h1 : A e = .rt d e1) : dSeq A B e = .rt d e1 := by unfold dSeq; rw [h1]; rfl
theorem q_seqN {A B : Ev → Rs} (h1 : A e = .rn xs e1) : dSeq A B e = .rn xs e1 := by unfold dSeq; rw [h1]; rfl
theorem q_seqX {A B : Ev → Rs} {q : Str} (h1 : A e = .ex q d e1) : dSeq A B e = .ex q d e1 := by unfold dSeq; rw [h1]; rfl
theorem q_pass : dPass e = .nx e := rfl
theorem q_set (h1 : a e = .ok x e1) (h2 : put i (.dat x) e1 = some e2) : dSet i a e = .nx e2 := by unfold dSet; rw [h1]; show os (put i (.dat x) e1) = _; rw [h2]; rfl
theorem q_new (h1 : da e = .ok xs e1) (h2 : put i (.own false xs) e1 = some e2) : dNew i da e = .nx e2 := by unfold dNew; rw [h1]; show os (put i (.own false xs) e1) = _; rw [h2]; rfl
theorem q_drop (h1 : a e = .ok x e1) : dDrop a e = .nx e1 := by unfold dDrop; rw [h1]; rfl
theorem q_dropX {q : Str} (h1 : a e = .ex q x e1) : dDrop a e = .ex q x e1 := by unfold dDrop; rw [h1]; rfl
theorem q_ret (h1 : a e = .ok x e1) : dRet a e = .rt x e1 := by unfold dRet; rw [h1]; rfl
theorem q_retX {q : Str} (h1 : a e = .ex q x e1) : dRet a e = .ex q x e1 := by unfold dRet; rw [h1]; rfl
theorem q_retN (h1 : da e = .ok xs e1) : dRetN da e = .rn xs e1 := by unfold dRetN; rw [h1]; rfl
theorem q_give (h : e[i]? = some (.own false xs)) (h2 : e.set i .un = e1) : dGive i e = .rn xs e1 := by unfold dGive; rw [h, ← h2]
theorem q_if {A B : Ev → Rs} (h1 : ta e = .ok u e1) (h2 : (if u = true then A e1 else B e1) = r) : dIf ta A B e = r := by unfold dIf; rw [h1, ← h2]; rfl
theorem q_append {o o' : Bool} (h0 : e[i]? = some (.own o xs)) (h1 : a e = .ok x e1) (h2 : e1[i]? = some (.own o' ys)) (h3 : ys.length < 1000000) (h4 : e1.set i (.own o' (ys ++ [x])) = e2) : dAppend i a e = .nx e2 := by
  unfold dAppend onS; rw [h0]; show (a e).toS _ = _; rw [h1]; show (match e1[i]? with | some (.own b xs) => if xs.length < 1000000 then Rs.nx (e1.set i (.own b (xs ++ [x]))) else .no | _ => .no) = _; rw [h2]; show (if ys.length < 1000000 then _ else _) = _; rw [if_pos h3, h4]
theorem q_pop {o : Bool} (h0 : e[i]? = some (.own o xs)) (h3 : xs.length ≠ 0) (h4 : e.set i (.own o xs.dropLast) = e2) : dPop i e = .nx e2 := by
  unfold dPop onS; rw [h0]; show (if xs.length = 0 then _ else _) = _; rw [if_neg h3, h4]
theorem onS_own {o : Bool} {k : Bool → List D → Rs} (h : e[i]? = some (.own o xs)) : onS i e k = k o xs := by unfold onS; rw [h]
theorem q_putAt {o o' : Bool} {k : Int} (h0 : a e = .ok x e1) (h1 : e1[i]? = some (.own o xs)) (h2 : b e1 = .ok (.int k) e2) (h3 : e2[i]? = some (.own o' ys)) (h4 : ixN ys.length k = some n) (h5 : e2.set i (.own o' (ys.set n x)) = e3) : dPutAt i b a e = .nx e3 := by
  unfold dPutAt
  rw [h0]
  show onS i e1 _ = _
  rw [onS_own h1, h2]
  show onS i e2 _ = _
  rw [onS_own h3, h4]
  exact congrArg Rs.nx h5
theorem q_asg {k : D → Ev → Option Ev} (h0 : a e = .ok x e1) (h1 : k x e1 = some e2) : dAsg a k e = .nx e2 := by unfold dAsg; rw [h0]; show os (k x e1) = _; rw [h1]; rfl
theorem q_parEE (h0 : a e = .ok x e1) (h1 : b e1 = .ok y e2) (h2 : put2 i j (.dat x) (.dat y) e2 = some e3) : dParEE i j a b e = .nx e3 := by unfold dParEE; rw [h0]; show (b e1).toS _ = _; rw [h1]; show os (put2 i j (.dat x) (.dat y) e2) = _; rw [h2]; rfl
theorem q_parNE (h0 : da e = .ok xs e1) (h1 : b e1 = .ok y e2) (h2 : put2 i j (.own false xs) (.dat y) e2 = some e3) : dParNE i j da b e = .nx e3 := by unfold dParNE; rw [h0]; show (b e1).toS _ = _; rw [h1]; show os (put2 i j (.own false xs) (.dat y) e2) = _; rw [h2]; rfl
theorem q_parEN (h0 : a e = .ok x e1) (h1 : db e1 = .ok ys e2) (h2 : put2 i j (.dat x) (.own false ys) e2 = some e3) : dParEN i j a db e = .nx e3 := by unfold dParEN; rw [h0]; show (db e1).toS _ = _; rw [h1]; show os (put2 i j (.dat x) (.own false ys) e2) = _; rw [h2]; rfl
theorem q_for {it : Ev → Rz (List D)} {k : D → Ev → Option Ev} {B : Ev → Rs} (h0 : it e = .ok xs e1) (h1 : dLoop k B xs e1 = r) : dFor it k B e = r := by unfold dFor; rw [h0, ← h1]; rfl
theorem q_raise {q : Str} (h1 : a e = .ok x e1) : dRaise q a e = .ex q x e1 := by unfold dRaise; rw [h1]; rfl
/-! a walk: each turn goes on -/
theorem loop_nil {k : D → Ev → Option Ev} {B : Ev → Rs} : dLoop k B [] e = .nx e := rfl
theorem loop_cons {k : D → Ev → Option Ev} {B : Ev → Rs} (h0 : k x e = some e1) (h1 : B e1 = .nx e2) (h2 : dLoop k B xs e2 = r) : dLoop k B (x :: xs) e = r := by rw [dLoop_cons, h0]; show after (B e1) _ = _; rw [h1]; exact h2
theorem loop_ret {k : D → Ev → Option Ev} {B : Ev → Rs} (h0 : k x e = some e1) (h1 : B e1 = .rt d e2) : dLoop k B (x :: xs) e = .rt d e2 := by rw [dLoop_cons, h0]; show after (B e1) _ = _; rw [h1]; rfl
theorem while_go {B : Ev → Rs} (h0 : ta e = .ok true e1) (h1 : B e1 = .nx e2) (h2 : dWhile ta B n e2 = r) : dWhile ta B (n + 1) e = r := by rw [dWhile_succ, h0]; show after (B e1) _ = _; rw [h1]; exact h2
theorem while_end {B : Ev → Rs} (h0 : ta e = .ok false e1) : dWhile ta B (n + 1) e = .nx e1 := by rw [dWhile_succ, h0]; rfl
/-! a def -/
theorem p_rt {B : Ev → Rs} (h : B (ds.map .dat ++ List.replicate (m - ds.length) .un) = .rt d e) : runP B m ds = .ok d := by unfold runP; rw [h]
theorem p_nx {B : Ev → Rs} (h : B (ds.map .dat ++ List.replicate (m - ds.length) .un) = .nx e) : runP B m ds = .ok .non := by unfold runP; rw [h]
theorem p_rn {B : Ev → Rs} (h : B (ds.map .dat ++ List.replicate (m - ds.length) .un) = .rn xs e) : runP B m ds = .nw xs := by unfold runP; rw [h]
theorem p_ex {B : Ev → Rs} {q : Str} (h : B (ds.map .dat ++ List.replicate (m - ds.length) .un) = .ex q d e) : runP B m ds = .ex q d := by unfold runP; rw [h]
theorem i_rt {B : Ev → Rs} (h : B (.own true xs :: (ds.map .dat ++ List.replicate (m - 1 - ds.length) .un)) = .rt d e) (h2 : e[(0 : Nat)]? = some (.own true ys)) : runI B m xs ds = .ok d ys := by unfold runI; rw [h]; show io0 e _ = _; unfold io0; rw [h2]
theorem i_rn {B : Ev → Rs} (h : B (.own true xs :: (ds.map .dat ++ List.replicate (m - 1 - ds.length) .un)) = .rn zs e) (h2 : e[(0 : Nat)]? = some (.own true ys)) : runI B m xs ds = .nw zs ys := by unfold runI; rw [h]; show io0 e _ = _; unfold io0; rw [h2]
theorem ite_t {β : Type} {p q w : β} {u : Bool} (hu : u = true) (h : p = w) : (if u = true then p else q) = w := by rw [if_pos hu]; exact h
theorem ite_f {β : Type} {p q w : β} {u : Bool} (hu : u = false) (h : q = w) : (if u = true then p else q) = w := by rw [if_neg (by rw [hu]; decide)]; exact h
end
/-! ### numbers -/
section
variable {i j : Int}
theorem f_add : fAdd (.int i) (.int j) = some (.int (i + j)) := rfl
theorem f_sub : fSub (.int i) (.int j) = some (.int (i - j)) := rfl
theorem f_mul (h : CMulW i j) : fMul (.int i) (.int j) = some (.int (i * j)) := if_pos (decide_eq_true h)
theorem f_div (h : CDivW i j) : fDiv (.int i) (.int j) = some (.int (i / j)) := if_pos (decide_eq_true h)
theorem f_mod (h : 0 < j) : fMod (.int i) (.int j) = some (.int (i % j)) := if_pos (decide_eq_true h)
theorem f_lt : fLt (.int i) (.int j) = some (.bl (decide (i < j))) := rfl
theorem f_le : fLe (.int i) (.int j) = some (.bl (decide (i ≤ j))) := rfl
theorem f_gt : fGt (.int i) (.int j) = some (.bl (decide (j < i))) := rfl
theorem f_ge : fGe (.int i) (.int j) = some (.bl (decide (j ≤ i))) := rfl
end
/-! ### comprehensions -/
theorem lc_nil {k : D → Ev → Option Ev} {t : Ev → Rz Bool} {a : Ev → Rz D} {vs : List Nat} {acc : List D} {e : Ev} : lcLoop k t a vs [] acc e = some (acc, e) := rfl
theorem lc_cons {k : D → Ev → Option Ev} {t : Ev → Rz Bool} {a : Ev → Rz D} {vs : List Nat} {acc r : List D} {x y : D} {e e1 e2 e3 e4 : Ev} {w : Option (List D × Ev)} (h0 : k x e = some e1) (h1 : t e1 = .ok true e2) (h2 : a e2 = .ok y e3) (h3 : wipeE vs e3 = some e4) (h4 : acc.length < 1000000) (h5 : lcLoop k t a vs r (acc ++ [y]) e4 = w) :
    lcLoop k t a vs (x :: r) acc e = w := by
  rw [lcLoop, h0]; show (match t e1 with | .ok true e2 => _ | .ok false e2 => _ | _ => _) = _; rw [h1]; show (match a e2 with | .ok y e3 => _ | _ => _) = _; rw [h2]; show (wipeE vs e3).bind _ = _; rw [h3]; show (if acc.length < 1000000 then _ else _) = _; rw [if_pos h4]; exact h5
theorem lc_skip {k : D → Ev → Option Ev} {t : Ev → Rz Bool} {a : Ev → Rz D} {vs : List Nat} {acc r : List D} {x : D} {e e1 e2 e3 : Ev} {w : Option (List D × Ev)} (h0 : k x e = some e1) (h1 : t e1 = .ok false e2) (h3 : wipeE vs e2 = some e3) (h5 : lcLoop k t a vs r acc e3 = w) :
    lcLoop k t a vs (x :: r) acc e = w := by
  rw [lcLoop, h0]; show (match t e1 with | .ok true e2 => _ | .ok false e2 => _ | _ => _) = _; rw [h1]; show (wipeE vs e2).bind _ = _; rw [h3]; exact h5
theorem z_lc {it : Ev → Rz (List D)} {k : D → Ev → Option Ev} {t : Ev → Rz Bool} {a : Ev → Rz D} {vs : List Nat} {xs acc : List D} {e e1 e2 e3 e4 : Ev} (h0 : it e = .ok xs e1) (h1 : wipeE vs e1 = some e2) (h2 : lcLoop k t a vs xs [] e2 = some (acc, e3)) (h3 : backE e1 vs e3 = e4) : dLc it k t a vs e = .ok acc e4 := by
  unfold dLc; rw [h0]; show (match wipeE vs e1 with | none => _ | some e2 => _) = _; rw [h1]; show (match lcLoop k t a vs xs [] e2 with | none => _ | some (acc, e3) => _) = _; rw [h2, ← h3]
end DL
set_option Elab.async false
set_option linter.all false
set_option maxRecDepth 100000
set_option maxHeartbeats 4000000
/-! DN: lists of whole numbers as data: equal, written. -/
namespace DL
open PySem PySem.Spec PyProof.Rows L2
abbrev LI (xs : List Int) : List D := xs.map .int
abbrev L (xs : List Int) : D := .lst (LI xs)
theorem pyAll_LI : ∀ xs : List Int, D.pyAll (LI xs) = some (xs.map PyData.int)
  | [] => by
    show D.pyAll [] = some []
    rw [D.pyAll]
  | x :: r => by
    show D.pyAll (.int x :: LI r) = _
    rw [D.pyAll, pyAll_LI r, D.py]
    rfl
theorem py_L (xs : List Int) : (L xs).py = some (.list (xs.map PyData.int)) := by rw [D.py, pyAll_LI]; rfl
theorem canLay_ints : ∀ xs : List Int, PyData.canLayAll0 (xs.map PyData.int) = true
  | [] => by rw [List.map_nil, PyData.canLayAll0]
  | x :: r => by rw [List.map_cons, PyData.canLayAll0, canLay_ints r, PyData.canLay0]; rfl
theorem depth_ints : ∀ xs : List Int, PyData.depthAll (xs.map PyData.int) = 0
  | [] => by rw [List.map_nil, PyData.depthAll]
  | x :: r => by rw [List.map_cons, PyData.depthAll, depth_ints r, PyData.depth]; rfl
theorem shaped_L (xs : List Int) : SeqAt.shaped (.list (xs.map PyData.int)) = true := by
  unfold SeqAt.shaped
  rw [PyData.canLay0, canLay_ints, PyData.depth, depth_ints]
  rfl
theorem eqvAll_ints : ∀ xs ys : List Int, PyData.eqvAll (xs.map PyData.int) (ys.map PyData.int) = decide (xs = ys)
  | [], [] => by rw [List.map_nil, PyData.eqvAll]; rfl
  | [], y :: s => by rw [List.map_nil, List.map_cons, PyData.eqvAll]; rfl
  | x :: r, [] => by rw [List.map_nil, List.map_cons, PyData.eqvAll]; rfl
  | x :: r, y :: s => by
    rw [List.map_cons, List.map_cons, PyData.eqvAll, eqvAll_ints r s, PyData.eqv]
    by_cases h : x = y
    · subst h
      simp
    · simp [h]
theorem eqD_L (xs ys : List Int) : eqD (L xs) (L ys) = some (decide (xs = ys)) := by
  unfold eqD
  rw [py_L, py_L]
  show (if (SeqAt.shaped (.list (xs.map PyData.int)) && SeqAt.shaped (.list (ys.map PyData.int))) = true then some (PyData.eqv (.list (xs.map PyData.int)) (.list (ys.map PyData.int))) else none) = _
  rw [shaped_L, shaped_L, PyData.eqv, eqvAll_ints]
  rfl
theorem eqD_int (i j : Int) : eqD (.int i) (.int j) = some (decide (i = j)) := by
  unfold eqD
  rw [D.py, D.py]
  show (if (SeqAt.shaped (.int i) && SeqAt.shaped (.int j)) = true then some (PyData.eqv (.int i) (.int j)) else none) = _
  rw [show SeqAt.shaped (.int i) = true from by unfold SeqAt.shaped; rw [PyData.canLay0, PyData.depth]; rfl, show SeqAt.shaped (.int j) = true from by unfold SeqAt.shaped; rw [PyData.canLay0, PyData.depth]; rfl, PyData.eqv]
  by_cases h : i = j
  · subst h
    simp
  · simp [h]
theorem f_eqL {xs ys : List Int} : fEq (L xs) (L ys) = some (.bl (decide (xs = ys))) := by unfold fEq; rw [eqD_L]; rfl
theorem f_neL {xs ys : List Int} : fNe (L xs) (L ys) = some (.bl (!decide (xs = ys))) := by unfold fNe; rw [eqD_L]; rfl
theorem f_eqI {i j : Int} : fEq (.int i) (.int j) = some (.bl (decide (i = j))) := by unfold fEq; rw [eqD_int]; rfl
theorem f_neI {i j : Int} : fNe (.int i) (.int j) = some (.bl (!decide (i = j))) := by unfold fNe; rw [eqD_int]; rfl
/-! ### equal texts -/
theorem strOk_of (x : String) : PyData.strOk (Str.ofString x) = true := by
  rw [Str.ofString_eq_toList]
  unfold PyData.strOk
  simp only [List.all_toArray, List.all_map, List.all_eq_true, Function.comp_apply, decide_eq_true_eq]
  intro c _
  have h := c.valid
  unfold UInt32.isValidChar Nat.isValidChar at h
  show c.val.toNat < _
  omega
theorem strOk_append {x y : Str} (hx : PyData.strOk x = true) (hy : PyData.strOk y = true) : PyData.strOk (x ++ y) = true := by
  unfold PyData.strOk at *
  rw [Str.cps_append, Array.all_append, hx, hy]
  rfl
theorem sepOk (k : Nat) : PyData.strOk ((if k > 0 then ", " else "" : String) : Str) = true := by split <;> exact strOk_of _
theorem textFrom_ok : ∀ (ts : List Str) (k : Nat) (acc : Str), PyData.strOk acc = true → (∀ t ∈ ts, PyData.strOk t = true) → PyData.strOk (textFrom k acc ts) = true
  | [], _, _, h, _ => h
  | t :: r, k, acc, h, ht => textFrom_ok r (k + 1) _ (strOk_append (strOk_append h (sepOk k)) (ht t List.mem_cons_self)) fun u hu => ht u (List.mem_cons_of_mem _ hu)
theorem textFrom_le {B : Nat} : ∀ (ts : List Str) (k : Nat) (acc : Str), (∀ t ∈ ts, t.length ≤ B) → (textFrom k acc ts).length ≤ acc.length + ts.length * (B + 2)
  | [], _, acc, _ => Nat.le_add_right _ _
  | t :: r, k, acc, ht => by
    have ih := textFrom_le r (k + 1) (acc ++ (if k > 0 then ", " else "" : String) ++ t) fun u hu => ht u (List.mem_cons_of_mem _ hu)
    have h1 := ht t List.mem_cons_self
    have h2 : ((if k > 0 then ", " else "" : String) : Str).length ≤ 2 := by split <;> decide
    rw [strLen_append, strLen_append] at ih
    show (textFrom (k + 1) _ r).length ≤ _
    rw [List.length_cons, Nat.add_mul]
    omega
theorem shown_ints : ∀ xs : List Int, PyData.shownAll (xs.map PyData.int) = xs.map fun i => Str.ofString (toString i)
  | [] => by rw [List.map_nil, PyData.shownAll]; rfl
  | x :: r => by rw [List.map_cons, PyData.shownAll, shown_ints r, PyData.shown]; rfl
theorem showable_ints : ∀ xs : List Int, (∀ x ∈ xs, x.natAbs.log2 < 1920) → PyData.showableAll (xs.map PyData.int) = true
  | [], _ => by rw [List.map_nil, PyData.showableAll]
  | x :: r, h => by
    rw [List.map_cons, PyData.showableAll, showable_ints r fun y hy => h y (List.mem_cons_of_mem _ hy), PyData.showable, decide_eq_true (h x List.mem_cons_self)]
    rfl
/-- a list of not too large numbers is written -/
theorem repr_L (xs : List Int) (h : ∀ x ∈ xs, x.natAbs.log2 < 1920) (hl : xs.length ≤ 1000) : ∃ t, fRepr (L xs) = some (.str t) ∧ PyData.strOk t = true := by
  refine ⟨listText (xs.map fun i => Str.ofString (toString i)), ?_, ?_⟩
  · have e : reprD (L xs) = some (listText (xs.map fun i => Str.ofString (toString i))) := by
      show (D.py (L xs)).bind _ = _
      rw [py_L]
      show (if (PyData.list (xs.map PyData.int)).showable = true ∧ (PyData.list (xs.map PyData.int)).depth ≤ 60 ∧ (PyData.list (xs.map PyData.int)).shown.length ≤ sizeLine then some (PyData.list (xs.map PyData.int)).shown else none) = _
      have e2 : (PyData.list (xs.map PyData.int)).shown = listText (xs.map fun i => Str.ofString (toString i)) := by rw [PyData.shown, shown_ints]
      have h3 : (listText (xs.map fun i => Str.ofString (toString i))).length ≤ sizeLine := by
        unfold listText
        rw [strLen_append, sizeLine_eq]
        have h4 := textFrom_le (B := 1921) (xs.map fun i => Str.ofString (toString i)) 0 "[" (fun t ht => by
          obtain ⟨i, hi, rfl⟩ := List.mem_map.mp ht
          exact int_text_len_1921 (h i hi))
        rw [List.length_map] at h4
        have h5 : (("[" : String) : Str).length = 1 := by decide
        have h6 : (("]" : String) : Str).length = 1 := by decide
        rw [h5] at h4
        rw [h6]
        have h7 : xs.length * (1921 + 2) ≤ 1000 * (1921 + 2) := Nat.mul_le_mul hl (Nat.le_refl _)
        omega
      rw [if_pos ⟨by rw [PyData.showable]; exact showable_ints xs h, by rw [PyData.depth, depth_ints]; decide, by rw [e2]; exact h3⟩, e2]
    unfold fRepr
    rw [e]
    rfl
  · unfold listText
    exact strOk_append (textFrom_ok _ _ _ (strOk_of _) fun t ht => by
      obtain ⟨i, _, rfl⟩ := List.mem_map.mp ht
      exact strOk_of _) (strOk_of _)
theorem repr_int {i : Int} (h : i.natAbs < 10 ^ 4300) : ∃ t, fRepr (.int i) = some (.str t) ∧ PyData.strOk t = true := by
  refine ⟨Str.ofString (toString i), ?_, strOk_of _⟩
  have e : reprD (.int i) = some (Str.ofString (toString i)) := if_pos h
  unfold fRepr
  rw [e]
  rfl
theorem eqD_str {x : Str} (h : PyData.strOk x = true) : eqD (.str x) (.str x) = some true := by
  unfold eqD
  rw [D.py]
  show (if (SeqAt.shaped (.str x) && SeqAt.shaped (.str x)) = true then some (PyData.eqv (.str x) (.str x)) else none) = _
  rw [show SeqAt.shaped (.str x) = true from by unfold SeqAt.shaped; rw [PyData.canLay0, PyData.depth, h]; rfl, PyData.eqv]
  simp
theorem f_eqS {x : Str} (h : PyData.strOk x = true) : fEq (.str x) (.str x) = some (.bl true) := by unfold fEq; rw [eqD_str h]; rfl
theorem f_neS {x : Str} (h : PyData.strOk x = true) : fNe (.str x) (.str x) = some (.bl false) := by unfold fNe; rw [eqD_str h]; rfl
end DL
set_option linter.all false
/-! MN: rows of binomials in plain mathematics. -/
namespace MN
/-- Pascal -/
def ch : Nat → Nat → Nat
  | _, 0 => 1
  | 0, _ + 1 => 0
  | n + 1, k + 1 => ch n k + ch n (k + 1)
theorem ch_zero (n : Nat) : ch n 0 = 1 := by cases n <;> rfl
theorem ch_gt : ∀ (n k : Nat), n < k → ch n k = 0
  | 0, k + 1, _ => rfl
  | n + 1, k + 1, h => by rw [ch, ch_gt n k (by omega), ch_gt n (k + 1) (by omega)]
theorem ch_self : ∀ n, ch n n = 1
  | 0 => rfl
  | n + 1 => by rw [ch, ch_self n, ch_gt n (n + 1) (by omega)]
theorem ch_step : ∀ (n k : Nat), ch n (k + 1) * (k + 1) = ch n k * (n - k)
  | 0, k => by
    cases k with
    | zero => rfl
    | succ k => simp [ch]
  | n + 1, 0 => by
    have h := ch_step n 0
    rw [ch_zero] at h ⊢
    rw [ch, ch_zero]
    have : ch n (0 + 1) = n := by omega
    omega
  | n + 1, k + 1 => by
    have h1 := ch_step n k
    have h2 := ch_step n (k + 1)
    rw [show ch (n + 1) (k + 1 + 1) = ch n (k + 1) + ch n (k + 1 + 1) from rfl, show ch (n + 1) (k + 1) = ch n k + ch n (k + 1) from rfl]
    by_cases hk : n < k + 1
    · rw [ch_gt n (k + 1) hk, ch_gt n (k + 1 + 1) (by omega)]
      have : n + 1 - (k + 1) = 0 := by omega
      rw [this]
      simp
    · have e1 : n + 1 - (k + 1) = (n - (k + 1)) + 1 := by omega
      have e2 : n - k = (n - (k + 1)) + 1 := by omega
      rw [e1]
      rw [e2] at h1
      rw [Nat.add_mul, Nat.add_mul, h2]
      generalize n - (k + 1) = m at *
      have h3 : ch n (k + 1) * (k + 1 + 1) = ch n k * (m + 1) + ch n (k + 1) := by rw [Nat.mul_add, h1, Nat.mul_one]
      rw [h3]
      simp only [Nat.mul_add, Nat.mul_one]
      omega
/-- what the program counts: the next number from the one ahead -/
theorem ch_int (n k : Nat) : ((ch n k : Nat) : Int) * ((n : Int) - (k : Int)) / ((k : Int) + 1) = (ch n (k + 1) : Nat) := by
  have h := ch_step n k
  by_cases hk : k ≤ n
  · have e : ((ch n k : Nat) : Int) * ((n : Int) - (k : Int)) = (ch n (k + 1) : Nat) * ((k : Int) + 1) := by
      have : ((n - k : Nat) : Int) = (n : Int) - (k : Int) := by omega
      rw [← this, ← Int.natCast_mul, ← h, Int.natCast_mul]
      rfl
    rw [e]
    exact Int.mul_ediv_cancel _ (by omega)
  · rw [ch_gt n k (by omega), ch_gt n (k + 1) (by omega)]
    simp
/-- the value of a row's part behind k items -/
def valFrom (n : Nat) : Nat → List Int → Int
  | _, [] => 0
  | k, x :: r => x * (ch n k : Nat) + valFrom n (k + 1) r
def val (xs : List Int) (n : Nat) : Int := valFrom n 0 xs
theorem valFrom_zero : ∀ (xs : List Int) (k : Nat), valFrom 0 (k + 1) xs = 0
  | [], _ => rfl
  | x :: r, k => by rw [valFrom, valFrom_zero r (k + 1), ch_gt 0 (k + 1) (by omega)]; simp
theorem valFrom_succ : ∀ (xs : List Int) (n k : Nat), valFrom (n + 1) (k + 1) xs = valFrom n (k + 1) xs + valFrom n k xs
  | [], _, _ => rfl
  | x :: r, n, k => by
    rw [valFrom, valFrom, valFrom, valFrom_succ r n (k + 1), show ch (n + 1) (k + 1) = ch n k + ch n (k + 1) from rfl]
    rw [Int.natCast_add, Int.mul_add]
    omega
theorem val_nil (n : Nat) : val [] n = 0 := rfl
theorem val_zero (c : Int) (cs : List Int) : val (c :: cs) 0 = c := by
  unfold val
  rw [valFrom, valFrom_zero, ch_zero]
  simp
theorem val_succ (c : Int) (cs : List Int) (n : Nat) : val (c :: cs) (n + 1) = val (c :: cs) n + val cs n := by
  unfold val
  rw [valFrom, valFrom, valFrom_succ, ch_zero, ch_zero]
  omega
theorem valFrom_append : ∀ (xs ys : List Int) (n k : Nat), valFrom n k (xs ++ ys) = valFrom n k xs + valFrom n (k + xs.length) ys
  | [], ys, n, k => by simp [valFrom]
  | x :: r, ys, n, k => by
    rw [List.cons_append, valFrom, valFrom, valFrom_append r ys n (k + 1), List.length_cons, show k + (r.length + 1) = k + 1 + r.length by omega]
    omega
/-! ### differences -/
def diff1 : List Int → List Int
  | [] => []
  | [_] => []
  | x :: y :: r => (y - x) :: diff1 (y :: r)
theorem diff1_length : ∀ xs : List Int, (diff1 xs).length = xs.length - 1
  | [] => rfl
  | [_] => rfl
  | x :: y :: r => by rw [diff1, List.length_cons, diff1_length (y :: r)]; simp
def diffsN : Nat → List Int → List Int
  | 0, _ => []
  | _ + 1, [] => []
  | n + 1, x :: r => x :: diffsN n (diff1 (x :: r))
def diffs (xs : List Int) : List Int := diffsN xs.length xs
theorem diff1_get : ∀ (xs : List Int) (i : Nat) (a b : Int), xs[i]? = some a → xs[i + 1]? = some b → (diff1 xs)[i]? = some (b - a)
  | [], _, _, _, h, _ => by simp at h
  | [x], i, a, b, _, h => by simp at h
  | x :: y :: r, 0, a, b, h1, h2 => by simp at h1 h2; subst h1 h2; rfl
  | x :: y :: r, i + 1, a, b, h1, h2 => by
    rw [diff1, List.getElem?_cons_succ]
    exact diff1_get (y :: r) i a b (by simpa using h1) (by simpa using h2)
/-- the row of a list has its values -/
theorem val_diffs : ∀ (N : Nat) (xs : List Int), xs.length = N → ∀ (i : Nat) (a : Int), xs[i]? = some a → val (diffsN N xs) i = a
  | 0, [], _, i, a, h => by simp at h
  | N + 1, x :: r, hN, 0, a, h => by
    rw [diffsN, val_zero]
    simpa using h
  | N + 1, x :: r, hN, i + 1, a, h => by
    have hl : i + 1 < (x :: r).length := (List.getElem?_eq_some_iff.mp h).1
    have hx : (x :: r)[i]? = some (x :: r)[i] := List.getElem?_eq_getElem (by omega)
    have ih1 := val_diffs (N + 1) (x :: r) hN i _ hx
    have hd : (diff1 (x :: r)).length = N := by rw [diff1_length, hN]; omega
    have ih2 := val_diffs N (diff1 (x :: r)) hd i _ (diff1_get (x :: r) i _ _ hx h)
    rw [diffsN] at ih1 ⊢
    rw [val_succ, ih1, ih2]
    omega
termination_by N _ _ i => (N, i)
/-! ### functions of a count, their differences -/
def del (h : Nat → Int) (n : Nat) : Int := h (n + 1) - h n
def delN : Nat → (Nat → Int) → (Nat → Int)
  | 0, h => h
  | k + 1, h => delN k (del h)
theorem del_add (f g : Nat → Int) : del (fun n => f n + g n) = fun n => del f n + del g n := by
  funext n
  show f (n + 1) + g (n + 1) - (f n + g n) = f (n + 1) - f n + (g (n + 1) - g n)
  omega
theorem delN_add : ∀ (k : Nat) (f g : Nat → Int), delN k (fun n => f n + g n) = fun n => delN k f n + delN k g n
  | 0, _, _ => rfl
  | k + 1, f, g => by rw [delN, del_add, delN_add k]; rfl
theorem delN_zero : ∀ k : Nat, delN k (fun _ => 0) = fun _ => 0
  | 0 => rfl
  | k + 1 => by rw [delN, show del (fun _ => 0) = fun _ => 0 from by funext n; rfl, delN_zero k]
theorem delN_del : ∀ (k : Nat) (h : Nat → Int), delN k (del h) = del (delN k h)
  | 0, _ => rfl
  | k + 1, h => by rw [delN, delN_del k (del h)]; rfl
theorem delN_more : ∀ (j k : Nat) (h : Nat → Int), delN k h = (fun _ => 0) → delN (k + j) h = fun _ => 0
  | 0, k, h, e => e
  | j + 1, k, h, e => by
    have z := delN_more j k h e
    show delN (k + j) (del h) = _
    rw [delN_del, z]
    funext n
    rfl
/-- the first L coefficients -/
def coefs : Nat → (Nat → Int) → List Int
  | 0, _ => []
  | L + 1, h => h 0 :: coefs L (del h)
theorem coefs_length : ∀ (L : Nat) (h : Nat → Int), (coefs L h).length = L
  | 0, _ => rfl
  | L + 1, h => by rw [coefs, List.length_cons, coefs_length L]
theorem newton : ∀ (L : Nat) (h : Nat → Int), delN L h = (fun _ => 0) → ∀ n, val (coefs L h) n = h n
  | 0, h, e, n => by rw [show h = (fun _ => 0) from e]; rfl
  | L + 1, h, e, 0 => by rw [coefs, val_zero]
  | L + 1, h, e, n + 1 => by
    have ih1 := newton (L + 1) h e n
    have ih2 := newton L (del h) e n
    rw [coefs] at ih1 ⊢
    rw [val_succ, ih1, ih2]
    unfold del
    omega
termination_by L _ _ n => (L, n)
theorem coefs_get : ∀ (L : Nat) (h : Nat → Int) (k : Nat), k < L → (coefs L h)[k]? = some (delN k h 0)
  | L + 1, h, 0, _ => rfl
  | L + 1, h, k + 1, hk => by rw [coefs, List.getElem?_cons_succ, coefs_get L (del h) k (by omega)]; rfl
/-! the row of the values of a function -/
def upto (L : Nat) (h : Nat → Int) : List Int := match L with
  | 0 => []
  | L + 1 => h 0 :: upto L fun n => h (n + 1)
theorem upto_length : ∀ (L : Nat) (h : Nat → Int), (upto L h).length = L
  | 0, _ => rfl
  | L + 1, h => by rw [upto, List.length_cons, upto_length L]
theorem diff1_upto : ∀ (L : Nat) (h : Nat → Int), diff1 (upto (L + 1) h) = upto L (del h)
  | 0, _ => rfl
  | L + 1, h => by
    have ih := diff1_upto L fun n => h (n + 1)
    rw [show upto (L + 1 + 1) h = h 0 :: upto (L + 1) fun n => h (n + 1) from rfl]
    rw [show (upto (L + 1) fun n => h (n + 1)) = h 1 :: upto L fun n => h (n + 1 + 1) from rfl] at ih ⊢
    rw [diff1, ih]
    rfl
theorem diffsN_upto : ∀ (L : Nat) (h : Nat → Int), diffsN L (upto L h) = coefs L h
  | 0, _ => rfl
  | L + 1, h => by
    show h 0 :: diffsN L (diff1 (upto (L + 1) h)) = _
    rw [diff1_upto, diffsN_upto L (del h)]
    rfl
theorem diffs_upto (L : Nat) (h : Nat → Int) : diffs (upto L h) = coefs L h := by
  unfold diffs
  rw [upto_length, diffsN_upto]
/-! ### products of rows -/
theorem del_val (c : Int) (cs : List Int) : del (val (c :: cs)) = val cs := by
  funext n
  unfold del
  rw [val_succ]
  omega
theorem del_mul (c d : Int) (cs ds : List Int) : del (fun n => val (c :: cs) n * val (d :: ds) n) = fun n => val cs n * val (d :: ds) n + (val (c :: cs) n * val ds n + val cs n * val ds n) := by
  funext n
  show val (c :: cs) (n + 1) * val (d :: ds) (n + 1) - val (c :: cs) n * val (d :: ds) n = _
  rw [val_succ, val_succ, Int.add_mul, Int.mul_add, Int.mul_add]
  omega
theorem mul_nil_l (ds : List Int) : (fun n => val [] n * val ds n) = fun _ => 0 := by funext n; rw [val_nil]; simp
theorem mul_nil_r (cs : List Int) : (fun n => val cs n * val [] n) = fun _ => 0 := by funext n; rw [val_nil]; simp
theorem mul_deg : ∀ (s : Nat) (cs ds : List Int), cs.length + ds.length = s + 1 → delN s (fun n => val cs n * val ds n) = fun _ => 0
  | s, [], ds, _ => by rw [mul_nil_l, delN_zero]
  | s, c :: cs, [], _ => by rw [mul_nil_r, delN_zero]
  | 0, c :: cs, d :: ds, h => by simp only [List.length_cons] at h; omega
  | s + 1, c :: cs, d :: ds, h => by
    simp only [List.length_cons] at h
    rw [delN, del_mul, delN_add, delN_add, mul_deg s cs (d :: ds) (by simp only [List.length_cons]; omega), mul_deg s (c :: cs) ds (by simp only [List.length_cons]; omega)]
    have e : delN s (fun n => val cs n * val ds n) = fun _ => 0 := by
      cases s with
      | zero =>
        have : cs = [] := List.length_eq_zero_iff.mp (by omega)
        subst this
        rw [mul_nil_l]
        rfl
      | succ s => exact delN_more 1 s _ (mul_deg s cs ds (by omega))
    rw [e]
    rfl
/-- the value of the product's row -/
theorem val_mul (cs ds : List Int) (n : Nat) : val (coefs (cs.length + ds.length) fun n => val cs n * val ds n) n = val cs n * val ds n := by
  refine newton _ _ ?_ n
  cases h : cs.length + ds.length with
  | zero =>
    have : cs = [] := List.length_eq_zero_iff.mp (by omega)
    subst this
    rw [mul_nil_l]
    rfl
  | succ s => exact delN_more 1 s _ (mul_deg s cs ds h)
/-- .. its highest item -/
def top : Nat → Nat → Nat
  | 0, _ => 1
  | _ + 1, 0 => 1
  | a + 1, b + 1 => top a (b + 1) + top (a + 1) b
termination_by a b => a + b
theorem top_l (b : Nat) : top 0 b = 1 := by rw [top]
theorem top_r (a : Nat) : top a 0 = 1 := by cases a <;> rw [top]
theorem top_s (a b : Nat) : top (a + 1) (b + 1) = top a (b + 1) + top (a + 1) b := by rw [top]
theorem top_pos : ∀ (a b : Nat), 0 < top a b
  | 0, b => by rw [top_l]; decide
  | a + 1, 0 => by rw [top_r]; decide
  | a + 1, b + 1 => by
    rw [top_s]
    exact Nat.add_pos_left (top_pos a (b + 1)) _
theorem mul_top : ∀ (s : Nat) (cs ds : List Int) (x y : Int), cs.length + ds.length + 1 = s + 1 → delN s (fun n => val (cs ++ [x]) n * val (ds ++ [y]) n) = fun _ => (top cs.length ds.length : Nat) * x * y := by
  intro s
  induction s with
  | zero =>
    intro cs ds x y h
    have h1 : cs = [] := List.length_eq_zero_iff.mp (by omega)
    have h2 : ds = [] := List.length_eq_zero_iff.mp (by omega)
    subst h1 h2
    funext n
    show val [x] n * val [y] n = (top 0 0 : Nat) * x * y
    have e : ∀ z : Int, val [z] n = z := fun z => by unfold val; rw [valFrom, valFrom, ch_zero]; simp
    rw [e, e, top_l]
    simp
  | succ s ih =>
    intro cs ds x y h
    cases cs with
    | nil =>
      cases ds with
      | nil => simp only [List.length_nil] at h; omega
      | cons d ds =>
        simp only [List.length_cons, List.length_nil] at h
        show delN s (del fun n => val [x] n * val (d :: (ds ++ [y])) n) = _
        rw [del_mul, delN_add, delN_add, mul_nil_l, mul_nil_l, delN_zero]
        have q := ih [] ds x y (by simp only [List.length_nil]; omega)
        rw [show (fun n => val ([] ++ [x]) n * val (ds ++ [y]) n) = fun n => val [x] n * val (ds ++ [y]) n from rfl] at q
        rw [q]
        funext n
        simp only [List.length_cons, List.length_nil]
        rw [top_l, top_l]
        simp
    | cons c cs =>
      cases ds with
      | nil =>
        simp only [List.length_cons, List.length_nil] at h
        show delN s (del fun n => val (c :: (cs ++ [x])) n * val [y] n) = _
        rw [del_mul, delN_add, delN_add, mul_nil_r, mul_nil_r, delN_zero]
        have q := ih cs [] x y (by simp only [List.length_nil]; omega)
        rw [show (fun n => val (cs ++ [x]) n * val ([] ++ [y]) n) = fun n => val (cs ++ [x]) n * val [y] n from rfl] at q
        rw [q]
        funext n
        simp only [List.length_cons, List.length_nil]
        rw [top_r, top_r]
        simp
      | cons d ds =>
        simp only [List.length_cons] at h
        show delN s (del fun n => val (c :: (cs ++ [x])) n * val (d :: (ds ++ [y])) n) = _
        rw [del_mul, delN_add, delN_add]
        have q1 := ih cs (d :: ds) x y (by simp only [List.length_cons]; omega)
        have q2 := ih (c :: cs) ds x y (by simp only [List.length_cons]; omega)
        rw [List.cons_append] at q1 q2
        rw [q1, q2, mul_deg s (cs ++ [x]) (ds ++ [y]) (by simp only [List.length_append, List.length_cons, List.length_nil]; omega)]
        funext n
        simp only [List.length_cons]
        rw [top_s, Int.natCast_add, Int.add_mul, Int.add_mul]
        omega
end MN
namespace MN
/-! ### zeros at the end -/
def trimN : Nat → List Int → List Int
  | 0, xs => xs
  | n + 1, xs => if xs[n]? = some 0 then trimN n (xs.take n) else xs
def trim (xs : List Int) : List Int := trimN xs.length xs
def RowOk (xs : List Int) : Prop := xs.drop (xs.length - 1) ≠ [0]
instance (xs : List Int) : Decidable (RowOk xs) := by unfold RowOk; infer_instance
theorem val_snoc_zero (xs : List Int) (n : Nat) : val (xs ++ [0]) n = val xs n := by
  unfold val
  rw [valFrom_append, valFrom, valFrom]
  omega
theorem split_last {xs : List Int} {n : Nat} {x : Int} (hl : xs.length = n + 1) (h : xs[n]? = some x) : xs = xs.take n ++ [x] := by
  have e : xs.drop n = [x] := by
    have hn : n < xs.length := by omega
    rw [List.drop_eq_getElem_cons hn, List.drop_eq_nil_of_le (by omega)]
    rw [List.getElem?_eq_getElem hn] at h
    rw [Option.some.inj h]
  rw [← e, List.take_append_drop]
theorem val_trimN : ∀ (n : Nat) (xs : List Int), xs.length = n → ∀ m, val (trimN n xs) m = val xs m
  | 0, _, _, _ => rfl
  | n + 1, xs, hl, m => by
    rw [trimN]
    split
    · rename_i h
      rw [val_trimN n (xs.take n) (by rw [List.length_take]; omega) m]
      have e := split_last hl h
      rw [← val_snoc_zero (xs.take n), ← e]
    · rfl
theorem val_trim (xs : List Int) (m : Nat) : val (trim xs) m = val xs m := val_trimN _ _ rfl m
theorem ok_trimN : ∀ (n : Nat) (xs : List Int), xs.length = n → RowOk (trimN n xs)
  | 0, xs, h => by
    have e : xs = [] := List.length_eq_zero_iff.mp h
    subst e
    unfold RowOk
    decide
  | n + 1, xs, hl => by
    rw [trimN]
    split
    · exact ok_trimN n (xs.take n) (by rw [List.length_take]; omega)
    · rename_i h
      intro e
      rw [hl, Nat.add_sub_cancel] at e
      apply h
      have hn : n < xs.length := by omega
      rw [List.drop_eq_getElem_cons hn] at e
      rw [List.getElem?_eq_getElem hn]
      injection e with e1 _
      rw [e1]
theorem ok_trim (xs : List Int) : RowOk (trim xs) := ok_trimN _ _ rfl
theorem len_trimN : ∀ (n : Nat) (xs : List Int), xs.length = n → (trimN n xs).length ≤ n
  | 0, xs, h => by rw [trimN]; omega
  | n + 1, xs, hl => by
    rw [trimN]
    split
    · have := len_trimN n (xs.take n) (by rw [List.length_take]; omega)
      omega
    · omega
theorem len_trim (xs : List Int) : (trim xs).length ≤ xs.length := len_trimN _ _ rfl
theorem mem_trimN : ∀ (n : Nat) (xs : List Int), ∀ x ∈ trimN n xs, x ∈ xs
  | 0, _, _, h => h
  | n + 1, xs, x, h => by
    rw [trimN] at h
    split at h
    · exact List.mem_of_mem_take (mem_trimN n (xs.take n) x h)
    · exact h
theorem mem_trim {xs : List Int} {x : Int} (h : x ∈ trim xs) : x ∈ xs := mem_trimN _ _ x h
/-- a list whose last item is no zero stays -/
theorem trim_id {xs : List Int} (h : RowOk xs) : trim xs = xs := by
  unfold trim
  cases hl : xs.length with
  | zero => rfl
  | succ n =>
    rw [trimN, if_neg]
    intro e
    apply h
    rw [hl, Nat.add_sub_cancel]
    have hn : n < xs.length := by omega
    rw [List.drop_eq_getElem_cons hn, List.drop_eq_nil_of_le (by omega)]
    rw [List.getElem?_eq_getElem hn] at e
    rw [Option.some.inj e]
/-- where the last item that is no zero stands -/
theorem trim_at : ∀ (m : Nat) (xs : List Int) (k : Nat) (x : Int), xs.length = m → xs[k]? = some x → x ≠ 0 → (∀ j y, k < j → xs[j]? = some y → y = 0) → (trimN m xs).length = k + 1
  | 0, xs, k, x, hl, hx, _, _ => by
    rw [List.length_eq_zero_iff.mp hl] at hx
    simp at hx
  | m + 1, xs, k, x, hl, hx, h0, hz => by
    rw [trimN]
    have hk : k < xs.length := (List.getElem?_eq_some_iff.mp hx).1
    by_cases hkm : k = m
    · subst hkm
      rw [if_neg (by rw [hx]; intro e; exact h0 (Option.some.inj e))]
      exact hl
    · have hm : m < xs.length := by omega
      have e := hz m xs[m] (by omega) (List.getElem?_eq_getElem hm)
      rw [if_pos (by rw [List.getElem?_eq_getElem hm, e])]
      refine trim_at m (xs.take m) k x (by rw [List.length_take]; omega) ?_ h0 fun j y hj hy => ?_
      · rw [List.getElem?_take_of_lt (by omega)]
        exact hx
      · have hj2 : j < (xs.take m).length := (List.getElem?_eq_some_iff.mp hy).1
        rw [List.length_take] at hj2
        rw [List.getElem?_take_of_lt (by omega)] at hy
        exact hz j y hj hy
end MN
set_option Elab.async false
set_option linter.all false
set_option maxRecDepth 100000
set_option maxHeartbeats 4000000
namespace T66
open PySem PySem.Spec PyProof.Rows L2 DL
def topS (i : Nat) : Stmt := PySem.Challenge.pw_skipcounts_k66_rows_of_binomials.main.body.getD i (.Pass ⟨0, 0, 0, 0⟩)
def cx_SkipError (c : Str) : Option Bool := if c = "InvalidNumber" then some true else if c = "InvalidList" then some true else none
def cf_ValueError (c : Str) : Option Bool := if c = "InvalidNumber" then some true else if c = "InvalidList" then some true else none
def cf_InvalidList (c : Str) : Option Bool := if c = "InvalidNumber" then some false else if c = "InvalidList" then some true else none
def cf_InvalidNumber (c : Str) : Option Bool := if c = "InvalidNumber" then some true else if c = "InvalidList" then some false else none
def okv (c : Str) : Bool := decide (c = "InvalidNumber") || decide (c = "InvalidList")
/-- what the top leaves: the built-ins' names are free, the exceptions' classes -/
structure Txt (P : Program) (K : PySem.W.Frag) (mg : Str → Option Value) : Prop where
  n_ValueError : mg "ValueError" = none
  n_bool : mg "bool" = none
  n_enumerate : mg "enumerate" = none
  n_int : mg "int" = none
  n_isinstance : mg "isinstance" = none
  n_len : mg "len" = none
  n_list : mg "list" = none
  n_max : mg "max" = none
  n_range : mg "range" = none
  n_repr : mg "repr" = none
  n_sum : mg "sum" = none
  g_SkipError : mg "SkipError" = some (.ref (He.ga K "SkipError"))
  g_InvalidList : mg "InvalidList" = some (.ref (He.ga K "InvalidList"))
  g_InvalidNumber : mg "InvalidNumber" = some (.ref (He.ga K "InvalidNumber"))
  x_InvalidNumber : ExcT P K mg "InvalidNumber"
  x_InvalidList : ExcT P K mg "InvalidList"
  e_SkipError : ∀ c b, cx_SkipError c = some b → PySem.W.exmOne K (.ref (He.ga K c)) (.ref (He.ga K "SkipError")) = some b
  i_ValueError : CfOk K cf_ValueError (.type "ValueError")
  i_InvalidList : CfOk K cf_InvalidList (.ref (He.ga K "InvalidList"))
  i_InvalidNumber : CfOk K cf_InvalidNumber (.ref (He.ga K "InvalidNumber"))
  v_ok : ∀ c, okv c = true → ValC K (He.ga K c)
section
variable {P : Program} {w : World} {K : PySem.W.Frag} {mg : Str → Option Value} {base : Heap}
/-! ### is_whole -/
abbrev s_is_whole : Stmt := topS 5
abbrev N_is_whole : List Str := ["value"]
theorem sc_is_whole : FnScope N_is_whole ["value"] (defScope s_is_whole) := ⟨rfl, rfl, rfl, by decide +kernel, rfl, by decide +kernel, by decide +kernel⟩
def B_is_whole : Ev → Rs := (dRet (dAnd (dUn (fIsi "int") (dVar 0)) (dNot (dUn (fIsi "bool") (dVar 0)))))
def F_is_whole : List D → Fz := runP B_is_whole 1
theorem ok_is_whole (T : Txt P K mg) (hnd : base.NoDigits)  {f : Addr} {fd : FuncData} (Fu : FunD K "is_whole" "is_whole" (defArgs s_is_whole) (defBody s_is_whole) (defScope s_is_whole) [] [] f fd) (hm : mg "is_whole" = some (.ref f)) :
    FnG P w K mg base 1 f fd ["value"] (spP K 1 F_is_whole) :=
  fnP (N := N_is_whole) (B := B_is_whole) Fu sc_is_whole fun cdv A outer s H E hgd hr => ⟨_, (qss_one (qs_ret (p := false) (qe_and (b_isi "int" T.n_isinstance (qe_var 0) (pe_bltn rfl T.n_int (by decide +kernel) rfl)) (qe_one (qe_not (b_isi "bool" T.n_isinstance (qe_var 0) (pe_bltn rfl T.n_bool (by decide +kernel) rfl)))))))⟩
/-! ### is_between -/
abbrev s_is_between : Stmt := topS 6
abbrev N_is_between : List Str := ["value", "low", "high"]
theorem sc_is_between : FnScope N_is_between ["value", "low", "high"] (defScope s_is_between) := ⟨rfl, rfl, rfl, by decide +kernel, rfl, by decide +kernel, by decide +kernel⟩
def B_is_between : Ev → Rs := (dSeq (dIf (dNotT (dTst (dCall F_is_whole (dCons (dVar 0) dNil)))) (dRet (dC (.bl false))) dPass) (dRet (dAnd (dOr (dOp fIsN (dVar 1) (dC .non)) (dOp fGe (dVar 0) (dVar 1))) (dOr (dOp fIsN (dVar 2) (dC .non)) (dOp fLe (dVar 0) (dVar 2))))))
def F_is_between : List D → Fz := runP B_is_between 3
theorem ok_is_between (T : Txt P K mg) (hnd : base.NoDigits) (d_is_whole : Def P w K mg base 1 "is_whole" ["value"] (spP K 1 F_is_whole)) {f : Addr} {fd : FuncData} (Fu : FunD K "is_between" "is_between" (defArgs s_is_between) (defBody s_is_between) (defScope s_is_between) [] [] f fd) (hm : mg "is_between" = some (.ref f)) :
    FnG P w K mg base 2 f fd ["value", "low", "high"] (spP K 3 F_is_between) :=
  fnP (N := N_is_between) (B := B_is_between) Fu sc_is_between fun cdv A outer s H E hgd hr => ⟨_, (qss_cons (qs_if (p := false) (qt_not (QE.t (cq d_is_whole hgd (hr.mono (by decide)) (takes_of rfl rfl rfl rfl) (qa_cons (qe_var 0) qa_nil)))) (qss_one (qs_ret (p := false) qe_bl)) qss_nil) (qss_one (qs_ret (p := false) (qe_and (qe_or (qe_cmp op_isN od_isN.toP (qe_var 1) qe_non (nomark _)) (qe_one (qe_cmp op_ge od_ge.toP (qe_var 0) (qe_var 1) (nomark _)))) (qe_one (qe_or (qe_cmp op_isN od_isN.toP (qe_var 2) qe_non (nomark _)) (qe_one (qe_cmp op_le od_le.toP (qe_var 0) (qe_var 2) (nomark _)))))))))⟩
/-! ### check_number -/
abbrev s_check_number : Stmt := topS 7
abbrev N_check_number : List Str := ["number", "low", "high"]
theorem sc_check_number : FnScope N_check_number ["number", "low", "high"] (defScope s_check_number) := ⟨rfl, rfl, rfl, by decide +kernel, rfl, by decide +kernel, by decide +kernel⟩
def B_check_number : Ev → Rs := (dIf (dNotT (dTst (dCall F_is_between (dCons (dVar 0) (dCons (dVar 1) (dCons (dVar 2) dNil)))))) (dRaise "InvalidNumber" (dVar 0)) dPass)
def F_check_number : List D → Fz := runP B_check_number 3
theorem ok_check_number (T : Txt P K mg) (hnd : base.NoDigits) (d_is_between : Def P w K mg base 2 "is_between" ["value", "low", "high"] (spP K 3 F_is_between)) {f : Addr} {fd : FuncData} (Fu : FunD K "check_number" "check_number" (defArgs s_check_number) (defBody s_check_number) (defScope s_check_number) [] [] f fd) (hm : mg "check_number" = some (.ref f)) :
    FnG P w K mg base 3 f fd ["number", "low", "high"] (spP K 3 F_check_number) :=
  fnP (N := N_check_number) (B := B_check_number) Fu sc_check_number fun cdv A outer s H E hgd hr => ⟨_, (qss_one (qs_if (p := false) (qt_not (QE.t (cq d_is_between hgd (hr.mono (by decide)) (takes_of rfl rfl rfl rfl) (qa_cons (qe_var 0) (qa_cons (qe_var 1) (qa_cons (qe_var 2) qa_nil)))))) (qss_one (qs_raise (p := false) (k := 0) rfl T.x_InvalidNumber (hr.mono (by decide)) (takes_of rfl rfl rfl rfl) (qe_var 0))) qss_nil))⟩
/-! ### is_binomials -/
abbrev s_is_binomials : Stmt := topS 9
abbrev N_is_binomials : List Str := ["value", "item"]
theorem sc_is_binomials : FnScope N_is_binomials ["value"] (defScope s_is_binomials) := ⟨rfl, rfl, rfl, by decide +kernel, rfl, by decide +kernel, by decide +kernel⟩
def B_is_binomials : Ev → Rs := (dSeq (dIf (dOrT (dNotT (dTst (dUn (fIsi "list") (dVar 0)))) (dTst (dOp fNe (dOfN (dLc (dItems (dVar 0)) (gNm 1) (dNotT (dTst (dCall F_is_whole (dCons (dVar 1) dNil)))) (dVar 1) [1])) (dOfN (dLstE dNil))))) (dRet (dC (.bl false))) dPass) (dRet (dOp fNe (dOfN (dSlL (dVar 0) (dPart (dUn fNeg (dC (.int 1)))) dNoP)) (dOfN (dLstE (dCons (dC (.int 0)) dNil))))))
def F_is_binomials : List D → Fz := runP B_is_binomials 2
theorem ok_is_binomials (T : Txt P K mg) (hnd : base.NoDigits) (d_is_whole : Def P w K mg base 1 "is_whole" ["value"] (spP K 1 F_is_whole)) {f : Addr} {fd : FuncData} (Fu : FunD K "is_binomials" "is_binomials" (defArgs s_is_binomials) (defBody s_is_binomials) (defScope s_is_binomials) [] [] f fd) (hm : mg "is_binomials" = some (.ref f)) :
    FnG P w K mg base 2 f fd ["value"] (spP K 1 F_is_binomials) :=
  fnP (N := N_is_binomials) (B := B_is_binomials) Fu sc_is_binomials fun cdv A outer s H E hgd hr => ⟨_, (qss_cons (qs_if (p := false) (QW.t (qw_or (qt_not (QE.t (b_isi "list" T.n_isinstance (qe_var 0) (pe_bltn rfl T.n_list (by decide +kernel) rfl)))) (qw_or1 (qt_cmp (op_neD hr.units) od_ne.toP (QN.e (n_lc (own := [("item", 1)]) rfl sc_is_binomials.nd (i_list (qe_var 0)) (blkOk_by (own := [("item", 1)]) (N := N_is_binomials) (sc := defScope s_is_binomials) (by decide +kernel)) (qg_name (i := 1) sc_is_binomials.nd rfl (.inl rfl)) (qts_one (qt_not (QE.t (cq d_is_whole hgd (hr.mono (by decide)) takes0 (qa_cons (qe_var 1) qa_nil))))) (qe_var 1) (fun _ _ _ _ _ => (qg_name (i := 1) sc_is_binomials.nd rfl (.inl rfl))) (fun _ _ _ _ _ => (qts_one (qt_not (QE.t (cq d_is_whole hgd (hr.mono (by decide)) takes0 (qa_cons (qe_var 1) qa_nil)))))) (fun _ _ _ _ _ => (qe_var 1)) (by decide))) (QN.e (qn_lst qa_nil)) (nomark _))))) (qss_one (qs_ret (p := false) qe_bl)) qss_nil) (qss_one (qs_ret (p := false) (qe_cmp (op_neD hr.units) od_ne.toP (QN.e (qn_slice (qe_var 0) (qo_some (qe_un un_neg ud_neg qe_int)) qo_none)) (QN.e (qn_lst (qa_cons qe_int qa_nil))) (nomark _)))))⟩
/-! ### check_row -/
abbrev s_check_row : Stmt := topS 10
abbrev N_check_row : List Str := ["row"]
theorem sc_check_row : FnScope N_check_row ["row"] (defScope s_check_row) := ⟨rfl, rfl, rfl, by decide +kernel, rfl, by decide +kernel, by decide +kernel⟩
def B_check_row : Ev → Rs := (dIf (dNotT (dTst (dCall F_is_binomials (dCons (dVar 0) dNil)))) (dRaise "InvalidList" (dVar 0)) dPass)
def F_check_row : List D → Fz := runP B_check_row 1
theorem ok_check_row (T : Txt P K mg) (hnd : base.NoDigits) (d_is_binomials : Def P w K mg base 2 "is_binomials" ["value"] (spP K 1 F_is_binomials)) {f : Addr} {fd : FuncData} (Fu : FunD K "check_row" "check_row" (defArgs s_check_row) (defBody s_check_row) (defScope s_check_row) [] [] f fd) (hm : mg "check_row" = some (.ref f)) :
    FnG P w K mg base 3 f fd ["row"] (spP K 1 F_check_row) :=
  fnP (N := N_check_row) (B := B_check_row) Fu sc_check_row fun cdv A outer s H E hgd hr => ⟨_, (qss_one (qs_if (p := false) (qt_not (QE.t (cq d_is_binomials hgd (hr.mono (by decide)) (takes_of rfl rfl rfl rfl) (qa_cons (qe_var 0) qa_nil)))) (qss_one (qs_raise (p := false) (k := 0) rfl T.x_InvalidList (hr.mono (by decide)) (takes_of rfl rfl rfl rfl) (qe_var 0))) qss_nil))⟩
/-! ### row_at -/
abbrev s_row_at : Stmt := topS 11
abbrev N_row_at : List Str := ["row", "number", "found", "many", "at", "item"]
theorem sc_row_at : FnScope N_row_at ["row", "number"] (defScope s_row_at) := ⟨rfl, rfl, rfl, by decide +kernel, rfl, by decide +kernel, by decide +kernel⟩
def B_row_at : Ev → Rs := (dSeq (dAsg (dTupE (dCons (dC (.int 0)) (dCons (dC (.int 1)) dNil))) (gTwo (gNm 2) (gNm 3))) (dSeq (dFor (dEnum (dCons (dVar 0) dNil)) (gTwo (gNm 4) (gNm 5)) (dSeq (dSet 2 (dOp fAdd (dVar 2) (dOp fMul (dVar 5) (dVar 3)))) (dSet 3 (dOp fDiv (dOp fMul (dVar 3) (dOp fSub (dVar 1) (dVar 4))) (dOp fAdd (dVar 4) (dC (.int 1))))))) (dRet (dVar 2))))
def F_row_at : List D → Fz := runP B_row_at 6
theorem ok_row_at (T : Txt P K mg) (hnd : base.NoDigits)  {f : Addr} {fd : FuncData} (Fu : FunD K "row_at" "row_at" (defArgs s_row_at) (defBody s_row_at) (defScope s_row_at) [] [] f fd) (hm : mg "row_at" = some (.ref f)) :
    FnG P w K mg base 1 f fd ["row", "number"] (spP K 2 F_row_at) :=
  fnP (N := N_row_at) (B := B_row_at) Fu sc_row_at fun cdv A outer s H E hgd hr => ⟨_, (qss_cons (s_asg (p := false) (qe_tup (qa_cons qe_int (qa_cons qe_int qa_nil))) (qg_two rfl (qg_name (i := 2) sc_row_at.nd rfl (.inl rfl)) (qg_name (i := 3) sc_row_at.nd rfl (.inl rfl)) (pg_tup rfl (pgs_cons (pg_name (i := 2) sc_row_at.nd rfl (Or.inl rfl)) (pgs_cons (pg_name (i := 3) sc_row_at.nd rfl (Or.inl rfl)) pgs_nil))))) (qss_cons (qs_for (p := false) (passes_of rfl) rfl (i_enum T.n_enumerate (qa_cons (qe_var 0) qa_nil)) (qg_two rfl (qg_name (i := 4) sc_row_at.nd rfl (.inl rfl)) (qg_name (i := 5) sc_row_at.nd rfl (.inl rfl)) (pg_tup rfl (pgs_cons (pg_name (i := 4) sc_row_at.nd rfl (Or.inl rfl)) (pgs_cons (pg_name (i := 5) sc_row_at.nd rfl (Or.inl rfl)) pgs_nil)))) (qss_cons (qs_set (i := 2) (p := false) sc_row_at.nd rfl (.inl rfl) (qe_op op_add od_add.toP (qe_var 2) (qe_op op_mulW od_mul.toP (qe_var 5) (qe_var 3)))) (qss_one (qs_set (i := 3) (p := false) sc_row_at.nd rfl (.inl rfl) (qe_op op_fdivW od_div.toP (qe_op op_mulW od_mul.toP (qe_var 3) (qe_op op_sub od_sub.toP (qe_var 1) (qe_var 4))) (qe_op op_add od_add.toP (qe_var 4) qe_int)))))) (qss_one (qs_ret (p := false) (qe_var 2)))))⟩
/-! ### row_value -/
abbrev s_row_value : Stmt := topS 12
abbrev N_row_value : List Str := ["row", "number"]
theorem sc_row_value : FnScope N_row_value ["row", "number"] (defScope s_row_value) := ⟨rfl, rfl, rfl, by decide +kernel, rfl, by decide +kernel, by decide +kernel⟩
def B_row_value : Ev → Rs := (dSeq (dDrop (dCall F_check_row (dCons (dVar 0) dNil))) (dSeq (dDrop (dCall F_check_number (dCons (dVar 1) (dCons (dC (.int 0)) (dCons (dC .non) dNil))))) (dRet (dCall F_row_at (dCons (dVar 0) (dCons (dVar 1) dNil))))))
def F_row_value : List D → Fz := runP B_row_value 2
theorem ok_row_value (T : Txt P K mg) (hnd : base.NoDigits) (d_check_number : Def P w K mg base 3 "check_number" ["number", "low", "high"] (spP K 3 F_check_number)) (d_check_row : Def P w K mg base 3 "check_row" ["row"] (spP K 1 F_check_row)) (d_row_at : Def P w K mg base 1 "row_at" ["row", "number"] (spP K 2 F_row_at)) {f : Addr} {fd : FuncData} (Fu : FunD K "row_value" "row_value" (defArgs s_row_value) (defBody s_row_value) (defScope s_row_value) [] [] f fd) (hm : mg "row_value" = some (.ref f)) :
    FnG P w K mg base 4 f fd ["row", "number"] (spP K 2 F_row_value) :=
  fnP (N := N_row_value) (B := B_row_value) Fu sc_row_value fun cdv A outer s H E hgd hr => ⟨_, (qss_cons (qs_expr (p := false) (cq d_check_row hgd (hr.mono (by decide)) (takes_of rfl rfl rfl rfl) (qa_cons (qe_var 0) qa_nil))) (qss_cons (qs_expr (p := false) (cq d_check_number hgd (hr.mono (by decide)) (takes_of rfl rfl rfl rfl) (qa_cons (qe_var 1) (qa_cons qe_int (qa_cons qe_non qa_nil))))) (qss_one (qs_ret (p := false) (cq d_row_at hgd (hr.mono (by decide)) (takes_of rfl rfl rfl rfl) (qa_cons (qe_var 0) (qa_cons (qe_var 1) qa_nil)))))))⟩
/-! ### trimmed -/
abbrev s_trimmed : Stmt := topS 13
abbrev N_trimmed : List Str := ["row", "size"]
theorem sc_trimmed : FnScope N_trimmed ["row"] (defScope s_trimmed) := ⟨rfl, rfl, rfl, by decide +kernel, rfl, by decide +kernel, by decide +kernel⟩
def B_trimmed : Ev → Rs := (dSeq (dSet 1 (dBi bLen (dCons (dVar 0) dNil))) (dSeq (dWhile (dAndT (dTst (dOp fGt (dVar 1) (dC (.int 0)))) (dTst (dOp fEq (dOp fIx (dVar 0) (dOp fSub (dVar 1) (dC (.int 1)))) (dC (.int 0))))) (dSet 1 (dOp fSub (dVar 1) (dC (.int 1)))) 100000) (dRetN (dSlL (dVar 0) dNoP (dPart (dVar 1))))))
def F_trimmed : List D → Fz := runP B_trimmed 2
theorem ok_trimmed (T : Txt P K mg) (hnd : base.NoDigits)  {f : Addr} {fd : FuncData} (Fu : FunD K "trimmed" "trimmed" (defArgs s_trimmed) (defBody s_trimmed) (defScope s_trimmed) [] [] f fd) (hm : mg "trimmed" = some (.ref f)) :
    FnG P w K mg base 1 f fd ["row"] (spP K 1 F_trimmed) :=
  fnP (N := N_trimmed) (B := B_trimmed) Fu sc_trimmed fun cdv A outer s H E hgd hr => ⟨_, (qss_cons (qs_set (i := 1) (p := false) sc_trimmed.nd rfl (.inl rfl) (b_len T.n_len (qa_cons (qe_var 0) qa_nil))) (qss_cons (qs_while (p := false) 100000 (passes_of rfl) (QW.t (qw_and (qt_cmp op_gt od_gt.toP (qe_var 1) qe_int (nomark _)) (qw_and1 (qt_cmp (op_eqD hr.units) od_eq.toP (qe_ix ix_list op_ixL (qe_var 0) (qe_op op_sub od_sub.toP (qe_var 1) qe_int) (fun _ _ => rfl)) qe_int (nomark _))))) (qss_one (qs_set (i := 1) (p := false) sc_trimmed.nd rfl (.inl rfl) (qe_op op_sub od_sub.toP (qe_var 1) qe_int)))) (qss_one (qs_retn (p := false) (qn_slice (qe_var 0) qo_none (qo_some (qe_var 1)))))))⟩
/-! ### binomial_row -/
abbrev s_binomial_row : Stmt := topS 14
abbrev N_binomial_row : List Str := ["values", "item", "found", "left", "at"]
theorem sc_binomial_row : FnScope N_binomial_row ["values"] (defScope s_binomial_row) := ⟨rfl, rfl, rfl, by decide +kernel, rfl, by decide +kernel, by decide +kernel⟩
def B_binomial_row : Ev → Rs := (dSeq (dIf (dOrT (dNotT (dTst (dUn (fIsi "list") (dVar 0)))) (dTst (dOp fNe (dOfN (dLc (dItems (dVar 0)) (gNm 1) (dNotT (dTst (dCall F_is_whole (dCons (dVar 1) dNil)))) (dVar 1) [1])) (dOfN (dLstE dNil))))) (dRaise "InvalidList" (dVar 0)) dPass) (dSeq (dParNE 2 3 (dLstE dNil) (dOfN (dListOf (dCons (dVar 0) dNil)))) (dSeq (dWhile (dTst (dOp fNe (dVar 3) (dOfN (dLstE dNil)))) (dSeq (dAppend 2 (dOp fIx (dVar 3) (dC (.int 0)))) (dSet 3 (dOfN (dLc (dRng1 (dCons (dOp fSub (dBi bLen (dCons (dVar 3) dNil)) (dC (.int 1))) dNil)) (gNm 4) dYes (dOp fSub (dOp fIx (dVar 3) (dOp fAdd (dVar 4) (dC (.int 1)))) (dOp fIx (dVar 3) (dVar 4))) [4])))) 100000) (dRetN (dCallN F_trimmed (dCons (dFix 2) dNil))))))
def F_binomial_row : List D → Fz := runP B_binomial_row 5
theorem ok_binomial_row (T : Txt P K mg) (hnd : base.NoDigits) (d_is_whole : Def P w K mg base 1 "is_whole" ["value"] (spP K 1 F_is_whole)) (d_trimmed : Def P w K mg base 1 "trimmed" ["row"] (spP K 1 F_trimmed)) {f : Addr} {fd : FuncData} (Fu : FunD K "binomial_row" "binomial_row" (defArgs s_binomial_row) (defBody s_binomial_row) (defScope s_binomial_row) [] [] f fd) (hm : mg "binomial_row" = some (.ref f)) :
    FnG P w K mg base 2 f fd ["values"] (spP K 1 F_binomial_row) :=
  fnP (N := N_binomial_row) (B := B_binomial_row) Fu sc_binomial_row fun cdv A outer s H E hgd hr => ⟨_, (qss_cons (qs_if (p := false) (QW.t (qw_or (qt_not (QE.t (b_isi "list" T.n_isinstance (qe_var 0) (pe_bltn rfl T.n_list (by decide +kernel) rfl)))) (qw_or1 (qt_cmp (op_neD hr.units) od_ne.toP (QN.e (n_lc (own := [("item", 1)]) rfl sc_binomial_row.nd (i_list (qe_var 0)) (blkOk_by (own := [("item", 1)]) (N := N_binomial_row) (sc := defScope s_binomial_row) (by decide +kernel)) (qg_name (i := 1) sc_binomial_row.nd rfl (.inl rfl)) (qts_one (qt_not (QE.t (cq d_is_whole hgd (hr.mono (by decide)) takes0 (qa_cons (qe_var 1) qa_nil))))) (qe_var 1) (fun _ _ _ _ _ => (qg_name (i := 1) sc_binomial_row.nd rfl (.inl rfl))) (fun _ _ _ _ _ => (qts_one (qt_not (QE.t (cq d_is_whole hgd (hr.mono (by decide)) takes0 (qa_cons (qe_var 1) qa_nil)))))) (fun _ _ _ _ _ => (qe_var 1)) (by decide))) (QN.e (qn_lst qa_nil)) (nomark _))))) (qss_one (qs_raise (p := false) (k := 0) rfl T.x_InvalidList (hr.mono (by decide)) (takes_of rfl rfl rfl rfl) (qe_var 0))) qss_nil) (qss_cons (s_tupNE (i := 2) (k := 3) (p := false) (qn_lst qa_nil) (QN.e (b_list T.n_list (qa_cons (qe_var 0) qa_nil))) rfl sc_binomial_row.nd rfl rfl (.inl rfl) (.inr rfl)) (qss_cons (qs_while (p := false) 100000 (passes_of rfl) (qt_cmp (op_neD hr.units) od_ne.toP (qe_var 3) (QN.e (qn_lst qa_nil)) (nomark _)) (qss_cons (s_append (p := false) 2 (qe_ix ix_list op_ixL (qe_var 3) qe_int (fun _ _ => rfl)) (pv 2)) (qss_one (qs_set (i := 3) (p := false) sc_binomial_row.nd rfl (.inr rfl) (QN.e (n_lc (own := [("at", 4)]) rfl sc_binomial_row.nd (i_rng1 T.n_range (qa_cons (qe_op op_sub od_sub.toP (b_len T.n_len (qa_cons (qe_var 3) qa_nil)) qe_int) qa_nil)) (blkOk_by (own := [("at", 4)]) (N := N_binomial_row) (sc := defScope s_binomial_row) (by decide +kernel)) (qg_name (i := 4) sc_binomial_row.nd rfl (.inl rfl)) qts_nil (qe_op op_sub od_sub.toP (qe_ix ix_list op_ixL (qe_var 3) (qe_op op_add od_add.toP (qe_var 4) qe_int) (fun _ _ => rfl)) (qe_ix ix_list op_ixL (qe_var 3) (qe_var 4) (fun _ _ => rfl))) (fun _ _ _ _ _ => (qg_name (i := 4) sc_binomial_row.nd rfl (.inl rfl))) (fun _ _ _ _ _ => qts_nil) (fun _ _ _ _ _ => (qe_op op_sub od_sub.toP (qe_ix ix_list op_ixL (qe_var 3) (qe_op op_add od_add.toP (qe_var 4) qe_int) (fun _ _ => rfl)) (qe_ix ix_list op_ixL (qe_var 3) (qe_var 4) (fun _ _ => rfl)))) (by decide))))))) (qss_one (qs_retn (p := false) (cqN d_trimmed hgd (hr.mono (by decide)) (takes_of rfl rfl rfl rfl) (qa_cons (qe_fix 2) qa_nil)))))))⟩
/-! ### row_product -/
abbrev s_row_product : Stmt := topS 15
abbrev N_row_product : List Str := ["one", "other", "at"]
theorem sc_row_product : FnScope N_row_product ["one", "other"] (defScope s_row_product) := ⟨rfl, rfl, rfl, by decide +kernel, rfl, by decide +kernel, by decide +kernel⟩
def B_row_product : Ev → Rs := (dSeq (dDrop (dCall F_check_row (dCons (dVar 0) dNil))) (dSeq (dDrop (dCall F_check_row (dCons (dVar 1) dNil))) (dRetN (dCallN F_binomial_row (dCons (dOfN (dLc (dRng1 (dCons (dOp fAdd (dBi bLen (dCons (dVar 0) dNil)) (dBi bLen (dCons (dVar 1) dNil))) dNil)) (gNm 2) dYes (dOp fMul (dCall F_row_at (dCons (dVar 0) (dCons (dVar 2) dNil))) (dCall F_row_at (dCons (dVar 1) (dCons (dVar 2) dNil)))) [2])) dNil)))))
def F_row_product : List D → Fz := runP B_row_product 3
theorem ok_row_product (T : Txt P K mg) (hnd : base.NoDigits) (d_check_row : Def P w K mg base 3 "check_row" ["row"] (spP K 1 F_check_row)) (d_row_at : Def P w K mg base 1 "row_at" ["row", "number"] (spP K 2 F_row_at)) (d_binomial_row : Def P w K mg base 2 "binomial_row" ["values"] (spP K 1 F_binomial_row)) {f : Addr} {fd : FuncData} (Fu : FunD K "row_product" "row_product" (defArgs s_row_product) (defBody s_row_product) (defScope s_row_product) [] [] f fd) (hm : mg "row_product" = some (.ref f)) :
    FnG P w K mg base 4 f fd ["one", "other"] (spP K 2 F_row_product) :=
  fnP (N := N_row_product) (B := B_row_product) Fu sc_row_product fun cdv A outer s H E hgd hr => ⟨_, (qss_cons (qs_expr (p := false) (cq d_check_row hgd (hr.mono (by decide)) (takes_of rfl rfl rfl rfl) (qa_cons (qe_var 0) qa_nil))) (qss_cons (qs_expr (p := false) (cq d_check_row hgd (hr.mono (by decide)) (takes_of rfl rfl rfl rfl) (qa_cons (qe_var 1) qa_nil))) (qss_one (qs_retn (p := false) (cqN d_binomial_row hgd (hr.mono (by decide)) (takes_of rfl rfl rfl rfl) (qa_cons (QN.e (n_lc (own := [("at", 2)]) rfl sc_row_product.nd (i_rng1 T.n_range (qa_cons (qe_op op_add od_add.toP (b_len T.n_len (qa_cons (qe_var 0) qa_nil)) (b_len T.n_len (qa_cons (qe_var 1) qa_nil))) qa_nil)) (blkOk_by (own := [("at", 2)]) (N := N_row_product) (sc := defScope s_row_product) (by decide +kernel)) (qg_name (i := 2) sc_row_product.nd rfl (.inl rfl)) qts_nil (qe_op op_mulW od_mul.toP (cq d_row_at hgd (hr.mono (by decide)) takes0 (qa_cons (qe_var 0) (qa_cons (qe_var 2) qa_nil))) (cq d_row_at hgd (hr.mono (by decide)) takes0 (qa_cons (qe_var 1) (qa_cons (qe_var 2) qa_nil)))) (fun _ _ _ _ _ => (qg_name (i := 2) sc_row_product.nd rfl (.inl rfl))) (fun _ _ _ _ _ => qts_nil) (fun _ _ _ _ _ => (qe_op op_mulW od_mul.toP (cq d_row_at hgd (hr.mono (by decide)) takes0 (qa_cons (qe_var 0) (qa_cons (qe_var 2) qa_nil))) (cq d_row_at hgd (hr.mono (by decide)) takes0 (qa_cons (qe_var 1) (qa_cons (qe_var 2) qa_nil))))) (by decide))) qa_nil))))))⟩
/-! ### _law_hash -/
abbrev s__law_hash : Stmt := topS 17
abbrev N__law_hash : List Str := ["_law_seed", "_law_index", "_law_mixed"]
theorem sc__law_hash : FnScope N__law_hash ["_law_seed", "_law_index"] (defScope s__law_hash) := ⟨rfl, rfl, rfl, by decide +kernel, rfl, by decide +kernel, by decide +kernel⟩
def B__law_hash : Ev → Rs := (dSeq (dSet 2 (dOp fMod (dBi bInt (dCons (dOp fAdd (dOp fAdd (dOp fAdd (dOp fMul (dVar 0) (dC (.int 1140671))) (dOp fMul (dOp fMul (dC (.int 27644437)) (dVar 1)) (dVar 1))) (dOp fMul (dC (.int 131)) (dVar 1))) (dC (.int 19))) dNil)) (dC (.int 2147483629)))) (dSeq (dSet 2 (dOp fMod (dBi bInt (dCons (dOp fAdd (dOp fAdd (dOp fMul (dVar 2) (dVar 2)) (dOp fMul (dC (.int 62089)) (dVar 1))) (dC (.int 32416187))) dNil)) (dC (.int 2147483587)))) (dRet (dOp fMod (dBi bInt (dCons (dOp fMul (dVar 2) (dC (.int 48271))) dNil)) (dC (.int 2147483647))))))
def F__law_hash : List D → Fz := runP B__law_hash 3
theorem ok__law_hash (T : Txt P K mg) (hnd : base.NoDigits)  {f : Addr} {fd : FuncData} (Fu : FunD K "_law_hash" "_law_hash" (defArgs s__law_hash) (defBody s__law_hash) (defScope s__law_hash) [] [] f fd) (hm : mg "_law_hash" = some (.ref f)) :
    FnG P w K mg base 1 f fd ["_law_seed", "_law_index"] (spP K 2 F__law_hash) :=
  fnP (N := N__law_hash) (B := B__law_hash) Fu sc__law_hash fun cdv A outer s H E hgd hr => ⟨_, (qss_cons (qs_set (i := 2) (p := false) sc__law_hash.nd rfl (.inl rfl) (qe_op op_mod od_mod.toP (b_int T.n_int (qa_cons (qe_op op_add od_add.toP (qe_op op_add od_add.toP (qe_op op_add od_add.toP (qe_op op_mulW od_mul.toP (qe_var 0) qe_int) (qe_op op_mulW od_mul.toP (qe_op op_mulW od_mul.toP qe_int (qe_var 1)) (qe_var 1))) (qe_op op_mulW od_mul.toP qe_int (qe_var 1))) qe_int) qa_nil)) qe_int)) (qss_cons (qs_set (i := 2) (p := false) sc__law_hash.nd rfl (.inl rfl) (qe_op op_mod od_mod.toP (b_int T.n_int (qa_cons (qe_op op_add od_add.toP (qe_op op_add od_add.toP (qe_op op_mulW od_mul.toP (qe_var 2) (qe_var 2)) (qe_op op_mulW od_mul.toP qe_int (qe_var 1))) qe_int) qa_nil)) qe_int)) (qss_one (qs_ret (p := false) (qe_op op_mod od_mod.toP (b_int T.n_int (qa_cons (qe_op op_mulW od_mul.toP (qe_var 2) qe_int) qa_nil)) qe_int)))))⟩
/-! ### _law_random -/
abbrev s__law_random : Stmt := topS 18
abbrev N__law_random : List Str := ["_law_generator_here", "_law_bound", "_law_drawn", "_law_turn"]
theorem sc__law_random : FnScope N__law_random ["_law_generator_here", "_law_bound"] (defScope s__law_random) := ⟨rfl, rfl, rfl, by decide +kernel, rfl, by decide +kernel, by decide +kernel⟩
def B__law_random : Ev → Rs := (dSeq (dIf (dTst (dOp fGt (dOp fIxF (dSee 0) (dC (.int 0))) (dC (.int 0)))) (dSeq (dSet 2 (dOp fMod (dBi bInt (dCons (dOp fIxF (dSee 0) (dC (.int 0))) dNil)) (dVar 1))) (dSeq (dPutAt 0 (dC (.int 0)) (dOp fDiv (dOp fIxF (dSee 0) (dC (.int 0))) (dVar 1))) (dRet (dVar 2)))) dPass) (dSeq (dSet 2 (dC (.int 0))) (dSeq (dFor (dRng1 (dCons (dOp fAdd (dC (.int 1)) (dOp fDiv (dUn fBits (dVar 1)) (dC (.int 30)))) dNil)) (gNm 3) (dSeq (dPutAt 0 (dC (.int 2)) (dOp fAdd (dOp fIxF (dSee 0) (dC (.int 2))) (dC (.int 1)))) (dSet 2 (dOp fAdd (dOp fMul (dVar 2) (dC (.int 2147483587))) (dCall F__law_hash (dCons (dOp fIxF (dSee 0) (dC (.int 1))) (dCons (dOp fIxF (dSee 0) (dC (.int 2))) dNil))))))) (dRet (dOp fMod (dBi bInt (dCons (dVar 2) dNil)) (dVar 1))))))
def F__law_random : List D → List D → Iz := runI B__law_random 4
theorem ok__law_random (T : Txt P K mg) (hnd : base.NoDigits) (d__law_hash : Def P w K mg base 1 "_law_hash" ["_law_seed", "_law_index"] (spP K 2 F__law_hash)) {f : Addr} {fd : FuncData} (Fu : FunD K "_law_random" "_law_random" (defArgs s__law_random) (defBody s__law_random) (defScope s__law_random) [] [] f fd) (hm : mg "_law_random" = some (.ref f)) :
    FnG P w K mg base 2 f fd ["_law_generator_here", "_law_bound"] (spI K 2 F__law_random) :=
  fnI (N := N__law_random) (B := B__law_random) Fu sc__law_random fun cdv A outer s H E hgd hr => ⟨_, (qss_cons (qs_if (p := false) (qt_cmp op_gt od_gt.toP (qe_ixR ix_list od_ixF (qr_see 0) (QE.r qe_int) (fun _ _ => rfl)) qe_int (nomark _)) (qss_cons (qs_set (i := 2) (p := false) sc__law_random.nd rfl (.inl rfl) (qe_op op_mod od_mod.toP (b_int T.n_int (qa_cons (qe_ixR ix_list od_ixF (qr_see 0) (QE.r qe_int) (fun _ _ => rfl)) qa_nil)) (qe_var 1))) (qss_cons (s_putAt (p := false) 0 (qe_op op_fdivW od_div.toP (qe_ixR ix_list od_ixF (qr_see 0) (QE.r qe_int) (fun _ _ => rfl)) (qe_var 1)) (pv 0) qe_int) (qss_one (qs_ret (p := false) (qe_var 2))))) qss_nil) (qss_cons (qs_set (i := 2) (p := false) sc__law_random.nd rfl (.inl rfl) qe_int) (qss_cons (qs_for (p := false) (passes_of rfl) rfl (i_rng1 T.n_range (qa_cons (qe_op op_add od_add.toP qe_int (qe_op op_fdivW od_div.toP (e_bits (qe_var 1)) qe_int)) qa_nil)) (qg_name (i := 3) sc__law_random.nd rfl (.inl rfl)) (qss_cons (s_putAt (p := false) 0 (qe_op op_add od_add.toP (qe_ixR ix_list od_ixF (qr_see 0) (QE.r qe_int) (fun _ _ => rfl)) qe_int) (pv 0) qe_int) (qss_one (qs_set (i := 2) (p := false) sc__law_random.nd rfl (.inl rfl) (qe_op op_add od_add.toP (qe_op op_mulW od_mul.toP (qe_var 2) qe_int) (cq d__law_hash hgd (hr.mono (by decide)) (takes_of rfl rfl rfl rfl) (qa_cons (qe_ixR ix_list od_ixF (qr_see 0) (QE.r qe_int) (fun _ _ => rfl)) (qa_cons (qe_ixR ix_list od_ixF (qr_see 0) (QE.r qe_int) (fun _ _ => rfl)) qa_nil)))))))) (qss_one (qs_ret (p := false) (qe_op op_mod od_mod.toP (b_int T.n_int (qa_cons (qe_var 2) qa_nil)) (qe_var 1)))))))⟩
/-! ### _law_cell -/
abbrev s__law_cell : Stmt := topS 19
abbrev N__law_cell : List Str := ["_law_script", "_law_index"]
theorem sc__law_cell : FnScope N__law_cell ["_law_script", "_law_index"] (defScope s__law_cell) := ⟨rfl, rfl, rfl, by decide +kernel, rfl, by decide +kernel, by decide +kernel⟩
def B__law_cell : Ev → Rs := (dSeq (dIf (dTst (dOp fLt (dVar 1) (dBi bLen (dCons (dVar 0) dNil)))) (dRet (dOp fIx (dVar 0) (dVar 1))) dPass) (dRet (dOp fMod (dBi bSum (dCons (dOfN (dSlL (dVar 0) dNoP (dPart (dC (.int 1))))) dNil)) (dC (.int 1000003)))))
def F__law_cell : List D → Fz := runP B__law_cell 2
theorem ok__law_cell (T : Txt P K mg) (hnd : base.NoDigits)  {f : Addr} {fd : FuncData} (Fu : FunD K "_law_cell" "_law_cell" (defArgs s__law_cell) (defBody s__law_cell) (defScope s__law_cell) [] [] f fd) (hm : mg "_law_cell" = some (.ref f)) :
    FnG P w K mg base 1 f fd ["_law_script", "_law_index"] (spP K 2 F__law_cell) :=
  fnP (N := N__law_cell) (B := B__law_cell) Fu sc__law_cell fun cdv A outer s H E hgd hr => ⟨_, (qss_cons (qs_if (p := false) (qt_cmp op_lt od_lt.toP (qe_var 1) (b_len T.n_len (qa_cons (qe_var 0) qa_nil)) (nomark _)) (qss_one (qs_ret (p := false) (qe_ix ix_list op_ixL (qe_var 0) (qe_var 1) (fun _ _ => rfl)))) qss_nil) (qss_one (qs_ret (p := false) (qe_op op_mod od_mod.toP (b_sum T.n_sum rfl (qa_cons (QN.e (qn_slice (qe_var 0) qo_none (qo_some qe_int))) qa_nil)) qe_int))))⟩
/-! ### _law_generator -/
abbrev s__law_generator : Stmt := topS 20
abbrev N__law_generator : List Str := ["_law_script", "_law_index", "_law_seed"]
theorem sc__law_generator : FnScope N__law_generator ["_law_script", "_law_index"] (defScope s__law_generator) := ⟨rfl, rfl, rfl, by decide +kernel, rfl, by decide +kernel, by decide +kernel⟩
def B__law_generator : Ev → Rs := (dSeq (dSet 2 (dCall F__law_cell (dCons (dVar 0) (dCons (dVar 1) dNil)))) (dRetN (dLstE (dCons (dOp fMod (dBi bInt (dCons (dBi bMax2 (dCons (dOp fSub (dVar 2) (dOp fPow (dC (.int 10)) (dC (.int 18)))) (dCons (dC (.int 0)) dNil))) dNil)) (dOp fPow (dOp fPow (dC (.int 10)) (dC (.int 60))) (dC (.int 10)))) (dCons (dOp fMod (dBi bInt (dCons (dVar 2) dNil)) (dC (.int 2147483647))) (dCons (dOp fMul (dC (.int 1000)) (dVar 1)) dNil))))))
def F__law_generator : List D → Fz := runP B__law_generator 3
theorem ok__law_generator (T : Txt P K mg) (hnd : base.NoDigits) (d__law_cell : Def P w K mg base 1 "_law_cell" ["_law_script", "_law_index"] (spP K 2 F__law_cell)) {f : Addr} {fd : FuncData} (Fu : FunD K "_law_generator" "_law_generator" (defArgs s__law_generator) (defBody s__law_generator) (defScope s__law_generator) [] [] f fd) (hm : mg "_law_generator" = some (.ref f)) :
    FnG P w K mg base 2 f fd ["_law_script", "_law_index"] (spP K 2 F__law_generator) :=
  fnP (N := N__law_generator) (B := B__law_generator) Fu sc__law_generator fun cdv A outer s H E hgd hr => ⟨_, (qss_cons (qs_set (i := 2) (p := false) sc__law_generator.nd rfl (.inl rfl) (cq d__law_cell hgd (hr.mono (by decide)) (takes_of rfl rfl rfl rfl) (qa_cons (qe_var 0) (qa_cons (qe_var 1) qa_nil)))) (qss_one (qs_retn (p := false) (qn_lst (qa_cons (qe_op op_mod od_mod.toP (b_int T.n_int (qa_cons (b_max2 T.n_max rfl (qa_cons (qe_op op_sub od_sub.toP (qe_var 2) (qe_op op_powW od_pow.toP qe_int qe_int)) (qa_cons qe_int qa_nil))) qa_nil)) (qe_op op_powW od_pow.toP (qe_op op_powW od_pow.toP qe_int qe_int) qe_int)) (qa_cons (qe_op op_mod od_mod.toP (b_int T.n_int (qa_cons (qe_var 2) qa_nil)) qe_int) (qa_cons (qe_op op_mulW od_mul.toP qe_int (qe_var 1)) qa_nil)))))))⟩
/-! ### _law_choose -/
abbrev s__law_choose : Stmt := topS 21
abbrev N__law_choose : List Str := ["_law_total", "_law_size", "_law_found", "_law_at"]
theorem sc__law_choose : FnScope N__law_choose ["_law_total", "_law_size"] (defScope s__law_choose) := ⟨rfl, rfl, rfl, by decide +kernel, rfl, by decide +kernel, by decide +kernel⟩
def B__law_choose : Ev → Rs := (dSeq (dSet 2 (dC (.int 1))) (dSeq (dFor (dRng1 (dCons (dVar 1) dNil)) (gNm 3) (dSet 2 (dOp fDiv (dOp fMul (dVar 2) (dOp fSub (dVar 0) (dVar 3))) (dOp fAdd (dVar 3) (dC (.int 1)))))) (dRet (dVar 2))))
def F__law_choose : List D → Fz := runP B__law_choose 4
theorem ok__law_choose (T : Txt P K mg) (hnd : base.NoDigits)  {f : Addr} {fd : FuncData} (Fu : FunD K "_law_choose" "_law_choose" (defArgs s__law_choose) (defBody s__law_choose) (defScope s__law_choose) [] [] f fd) (hm : mg "_law_choose" = some (.ref f)) :
    FnG P w K mg base 1 f fd ["_law_total", "_law_size"] (spP K 2 F__law_choose) :=
  fnP (N := N__law_choose) (B := B__law_choose) Fu sc__law_choose fun cdv A outer s H E hgd hr => ⟨_, (qss_cons (qs_set (i := 2) (p := false) sc__law_choose.nd rfl (.inl rfl) qe_int) (qss_cons (qs_for (p := false) (passes_of rfl) rfl (i_rng1 T.n_range (qa_cons (qe_var 1) qa_nil)) (qg_name (i := 3) sc__law_choose.nd rfl (.inl rfl)) (qss_one (qs_set (i := 2) (p := false) sc__law_choose.nd rfl (.inl rfl) (qe_op op_fdivW od_div.toP (qe_op op_mulW od_mul.toP (qe_var 2) (qe_op op_sub od_sub.toP (qe_var 0) (qe_var 3))) (qe_op op_add od_add.toP (qe_var 3) qe_int))))) (qss_one (qs_ret (p := false) (qe_var 2)))))⟩
/-! ### _law_value -/
abbrev s__law_value : Stmt := topS 22
abbrev N__law_value : List Str := ["_law_items", "_law_total", "_law_at", "_law_item"]
theorem sc__law_value : FnScope N__law_value ["_law_items", "_law_total"] (defScope s__law_value) := ⟨rfl, rfl, rfl, by decide +kernel, rfl, by decide +kernel, by decide +kernel⟩
def B__law_value : Ev → Rs := (dRet (dBi bSum (dCons (dOfN (dLc (dEnum (dCons (dVar 0) dNil)) (gTwo (gNm 2) (gNm 3)) dYes (dOp fMul (dVar 3) (dCall F__law_choose (dCons (dVar 1) (dCons (dVar 2) dNil)))) [2, 3])) dNil)))
def F__law_value : List D → Fz := runP B__law_value 4
theorem ok__law_value (T : Txt P K mg) (hnd : base.NoDigits) (d__law_choose : Def P w K mg base 1 "_law_choose" ["_law_total", "_law_size"] (spP K 2 F__law_choose)) {f : Addr} {fd : FuncData} (Fu : FunD K "_law_value" "_law_value" (defArgs s__law_value) (defBody s__law_value) (defScope s__law_value) [] [] f fd) (hm : mg "_law_value" = some (.ref f)) :
    FnG P w K mg base 2 f fd ["_law_items", "_law_total"] (spP K 2 F__law_value) :=
  fnP (N := N__law_value) (B := B__law_value) Fu sc__law_value fun cdv A outer s H E hgd hr => ⟨_, (qss_one (qs_ret (p := false) (b_sum T.n_sum rfl (qa_cons (QN.e (n_lc (own := [("_law_at", 2), ("_law_item", 3)]) rfl sc__law_value.nd (i_enum T.n_enumerate (qa_cons (qe_var 0) qa_nil)) (blkOk_by (own := [("_law_at", 2), ("_law_item", 3)]) (N := N__law_value) (sc := defScope s__law_value) (by decide +kernel)) (qg_two rfl (qg_name (i := 2) sc__law_value.nd rfl (.inl rfl)) (qg_name (i := 3) sc__law_value.nd rfl (.inl rfl)) (pg_tup rfl (pgs_cons (pg_name (i := 2) sc__law_value.nd rfl (Or.inl rfl)) (pgs_cons (pg_name (i := 3) sc__law_value.nd rfl (Or.inl rfl)) pgs_nil)))) qts_nil (qe_op op_mulW od_mul.toP (qe_var 3) (cq d__law_choose hgd (hr.mono (by decide)) takes0 (qa_cons (qe_var 1) (qa_cons (qe_var 2) qa_nil)))) (fun _ _ _ _ _ => (qg_two rfl (qg_name (i := 2) sc__law_value.nd rfl (.inl rfl)) (qg_name (i := 3) sc__law_value.nd rfl (.inl rfl)) (pg_tup rfl (pgs_cons (pg_name (i := 2) sc__law_value.nd rfl (Or.inl rfl)) (pgs_cons (pg_name (i := 3) sc__law_value.nd rfl (Or.inl rfl)) pgs_nil))))) (fun _ _ _ _ _ => qts_nil) (fun _ _ _ _ _ => (qe_op op_mulW od_mul.toP (qe_var 3) (cq d__law_choose hgd (hr.mono (by decide)) takes0 (qa_cons (qe_var 1) (qa_cons (qe_var 2) qa_nil))))) (by decide))) qa_nil))))⟩
/-! ### _law_number -/
abbrev s__law_number : Stmt := topS 23
abbrev N__law_number : List Str := ["_law_generator_here", "_law_kind", "_law_wide"]
theorem sc__law_number : FnScope N__law_number ["_law_generator_here"] (defScope s__law_number) := ⟨rfl, rfl, rfl, by decide +kernel, rfl, by decide +kernel, by decide +kernel⟩
def B__law_number : Ev → Rs := (dSeq (dSet 1 (dCallI 0 F__law_random (dCons (dC (.int 6)) dNil))) (dSeq (dIf (dTst (dOp fEq (dVar 1) (dC (.int 0)))) (dRet (dC (.int 0))) dPass) (dSeq (dIf (dTst (dOp fLt (dVar 1) (dC (.int 4)))) (dRet (dOp fSub (dCallI 0 F__law_random (dCons (dC (.int 9)) dNil)) (dC (.int 4)))) dPass) (dSeq (dSet 2 (dOp fIx (dOfN (dLstE (dCons (dOp fPow (dC (.int 10)) (dC (.int 6))) (dCons (dOp fPow (dC (.int 10)) (dC (.int 60))) dNil)))) (dOp fSub (dVar 1) (dC (.int 4))))) (dRet (dOp fSub (dCallI 0 F__law_random (dCons (dOp fAdd (dOp fMul (dC (.int 2)) (dVar 2)) (dC (.int 1))) dNil)) (dVar 2)))))))
def F__law_number : List D → List D → Iz := runI B__law_number 3
theorem ok__law_number (T : Txt P K mg) (hnd : base.NoDigits) (d__law_random : Def P w K mg base 2 "_law_random" ["_law_generator_here", "_law_bound"] (spI K 2 F__law_random)) {f : Addr} {fd : FuncData} (Fu : FunD K "_law_number" "_law_number" (defArgs s__law_number) (defBody s__law_number) (defScope s__law_number) [] [] f fd) (hm : mg "_law_number" = some (.ref f)) :
    FnG P w K mg base 3 f fd ["_law_generator_here"] (spI K 1 F__law_number) :=
  fnI (N := N__law_number) (B := B__law_number) Fu sc__law_number fun cdv A outer s H E hgd hr => ⟨_, (qss_cons (qs_set (i := 1) (p := false) sc__law_number.nd rfl (.inl rfl) (cqI (p := false) 0 d__law_random hgd (hr.mono (by decide)) (takes_of rfl rfl rfl rfl) (qa_cons qe_int qa_nil) (pv 0))) (qss_cons (qs_if (p := false) (qt_cmp (op_eqD hr.units) od_eq.toP (qe_var 1) qe_int (nomark _)) (qss_one (qs_ret (p := false) qe_int)) qss_nil) (qss_cons (qs_if (p := false) (qt_cmp op_lt od_lt.toP (qe_var 1) qe_int (nomark _)) (qss_one (qs_ret (p := false) (qe_op op_sub od_sub.toP (cqI (p := false) 0 d__law_random hgd (hr.mono (by decide)) (takes_of rfl rfl rfl rfl) (qa_cons qe_int qa_nil) (pv 0)) qe_int))) qss_nil) (qss_cons (qs_set (i := 2) (p := false) sc__law_number.nd rfl (.inl rfl) (qe_ix ix_list op_ixL (QN.e (qn_lst (qa_cons (qe_op op_powW od_pow.toP qe_int qe_int) (qa_cons (qe_op op_powW od_pow.toP qe_int qe_int) qa_nil)))) (qe_op op_sub od_sub.toP (qe_var 1) qe_int) (fun _ _ => rfl))) (qss_one (qs_ret (p := false) (qe_op op_sub od_sub.toP (cqI (p := false) 0 d__law_random hgd (hr.mono (by decide)) (takes_of rfl rfl rfl rfl) (qa_cons (qe_op op_add od_add.toP (qe_op op_mulW od_mul.toP qe_int (qe_var 2)) qe_int) qa_nil) (pv 0)) (qe_var 2))))))))⟩
/-! ### _law_numbers -/
abbrev s__law_numbers : Stmt := topS 24
abbrev N__law_numbers : List Str := ["_law_generator_here", "_law_many", "_law_turn", "_law_few", "_law_at"]
theorem sc__law_numbers : FnScope N__law_numbers ["_law_generator_here"] (defScope s__law_numbers) := ⟨rfl, rfl, rfl, by decide +kernel, rfl, by decide +kernel, by decide +kernel⟩
def B__law_numbers : Ev → Rs := (dSeq (dSet 1 (dOp fIx (dOfN (dLstE (dCons (dCallI 0 F__law_random (dCons (dC (.int 5)) dNil)) (dCons (dCallI 0 F__law_random (dCons (dC (.int 9)) dNil)) (dCons (dC (.int 13)) dNil))))) (dCallI 0 F__law_random (dCons (dC (.int 3)) dNil)))) (dSeq (dIf (dTst (dOp fGt (dCallI 0 F__law_random (dCons (dC (.int 3)) dNil)) (dC (.int 0)))) (dRetN (dLc (dRng1 (dCons (dVar 1) dNil)) (gNm 2) dYes (dCallI 0 F__law_number dNil) [2])) dPass) (dSeq (dSet 3 (dOfN (dLc (dRng1 (dCons (dCallI 0 F__law_random (dCons (dC (.int 4)) dNil)) dNil)) (gNm 2) dYes (dCallI 0 F__law_number dNil) [2]))) (dRetN (dLc (dRng1 (dCons (dVar 1) dNil)) (gNm 4) dYes (dCall F__law_value (dCons (dVar 3) (dCons (dVar 4) dNil))) [4])))))
def F__law_numbers : List D → List D → Iz := runI B__law_numbers 5
theorem ok__law_numbers (T : Txt P K mg) (hnd : base.NoDigits) (d__law_random : Def P w K mg base 2 "_law_random" ["_law_generator_here", "_law_bound"] (spI K 2 F__law_random)) (d__law_value : Def P w K mg base 2 "_law_value" ["_law_items", "_law_total"] (spP K 2 F__law_value)) (d__law_number : Def P w K mg base 3 "_law_number" ["_law_generator_here"] (spI K 1 F__law_number)) {f : Addr} {fd : FuncData} (Fu : FunD K "_law_numbers" "_law_numbers" (defArgs s__law_numbers) (defBody s__law_numbers) (defScope s__law_numbers) [] [] f fd) (hm : mg "_law_numbers" = some (.ref f)) :
    FnG P w K mg base 4 f fd ["_law_generator_here"] (spI K 1 F__law_numbers) :=
  fnI (N := N__law_numbers) (B := B__law_numbers) Fu sc__law_numbers fun cdv A outer s H E hgd hr => ⟨_, (qss_cons (qs_set (i := 1) (p := false) sc__law_numbers.nd rfl (.inl rfl) (qe_ix ix_list op_ixL (QN.e (qn_lst (qa_cons (cqI (p := false) 0 d__law_random hgd (hr.mono (by decide)) (takes_of rfl rfl rfl rfl) (qa_cons qe_int qa_nil) (pv 0)) (qa_cons (cqI (p := false) 0 d__law_random hgd (hr.mono (by decide)) (takes_of rfl rfl rfl rfl) (qa_cons qe_int qa_nil) (pv 0)) (qa_cons qe_int qa_nil))))) (cqI (p := false) 0 d__law_random hgd (hr.mono (by decide)) (takes_of rfl rfl rfl rfl) (qa_cons qe_int qa_nil) (pv 0)) (fun _ _ => rfl))) (qss_cons (qs_if (p := false) (qt_cmp op_gt od_gt.toP (cqI (p := false) 0 d__law_random hgd (hr.mono (by decide)) (takes_of rfl rfl rfl rfl) (qa_cons qe_int qa_nil) (pv 0)) qe_int (nomark _)) (qss_one (qs_retn (p := false) (n_lc (own := [("_law_turn", 2)]) rfl sc__law_numbers.nd (i_rng1 T.n_range (qa_cons (qe_var 1) qa_nil)) (blkOk_by (own := [("_law_turn", 2)]) (N := N__law_numbers) (sc := defScope s__law_numbers) (by decide +kernel)) (qg_name (i := 2) sc__law_numbers.nd rfl (.inl rfl)) qts_nil (cqI (p := false) 0 d__law_number hgd (hr.mono (by decide)) takes0 qa_nil (pv 0)) (fun _ _ _ _ _ => (qg_name (i := 2) sc__law_numbers.nd rfl (.inl rfl))) (fun _ _ _ _ _ => qts_nil) (fun _ _ _ _ _ => (cqI (p := false) 0 d__law_number hgd (hr.mono (by decide)) takes0 qa_nil (pv 0))) (by decide)))) qss_nil) (qss_cons (qs_set (i := 3) (p := false) sc__law_numbers.nd rfl (.inr rfl) (QN.e (n_lc (own := [("_law_turn", 2)]) rfl sc__law_numbers.nd (i_rng1 T.n_range (qa_cons (cqI (p := false) 0 d__law_random hgd (hr.mono (by decide)) (takes_of rfl rfl rfl rfl) (qa_cons qe_int qa_nil) (pv 0)) qa_nil)) (blkOk_by (own := [("_law_turn", 2)]) (N := N__law_numbers) (sc := defScope s__law_numbers) (by decide +kernel)) (qg_name (i := 2) sc__law_numbers.nd rfl (.inl rfl)) qts_nil (cqI (p := false) 0 d__law_number hgd (hr.mono (by decide)) takes0 qa_nil (pv 0)) (fun _ _ _ _ _ => (qg_name (i := 2) sc__law_numbers.nd rfl (.inl rfl))) (fun _ _ _ _ _ => qts_nil) (fun _ _ _ _ _ => (cqI (p := false) 0 d__law_number hgd (hr.mono (by decide)) takes0 qa_nil (pv 0))) (by decide)))) (qss_one (qs_retn (p := false) (n_lc (own := [("_law_at", 4)]) rfl sc__law_numbers.nd (i_rng1 T.n_range (qa_cons (qe_var 1) qa_nil)) (blkOk_by (own := [("_law_at", 4)]) (N := N__law_numbers) (sc := defScope s__law_numbers) (by decide +kernel)) (qg_name (i := 4) sc__law_numbers.nd rfl (.inl rfl)) qts_nil (cq d__law_value hgd (hr.mono (by decide)) takes0 (qa_cons (qe_var 3) (qa_cons (qe_var 4) qa_nil))) (fun _ _ _ _ _ => (qg_name (i := 4) sc__law_numbers.nd rfl (.inl rfl))) (fun _ _ _ _ _ => qts_nil) (fun _ _ _ _ _ => (cq d__law_value hgd (hr.mono (by decide)) takes0 (qa_cons (qe_var 3) (qa_cons (qe_var 4) qa_nil)))) (by decide)))))))⟩
/-! ### _law_counts -/
abbrev s__law_counts : Stmt := topS 25
abbrev N__law_counts : List Str := ["_law_generator_here", "_law_near", "_law_far"]
theorem sc__law_counts : FnScope N__law_counts ["_law_generator_here"] (defScope s__law_counts) := ⟨rfl, rfl, rfl, by decide +kernel, rfl, by decide +kernel, by decide +kernel⟩
def B__law_counts : Ev → Rs := (dSeq (dSet 1 (dOfN (dLstE (dCons (dC (.int 0)) (dCons (dC (.int 1)) (dCons (dC (.int 2)) (dCons (dCallI 0 F__law_random (dCons (dC (.int 13)) dNil)) dNil))))))) (dSeq (dSet 2 (dOp fMul (dOp fPow (dOp fPow (dC (.int 10)) (dC (.int 60))) (dC (.int 4))) (dOp fPow (dC (.int 10)) (dC (.int 58))))) (dRetN (dCat (dVar 1) (dOfN (dLstE (dCons (dCallI 0 F__law_random (dCons (dOp fPow (dC (.int 10)) (dC (.int 29))) dNil)) (dCons (dOp fAdd (dVar 2) (dCallI 0 F__law_random (dCons (dOp fMul (dC (.int 9)) (dVar 2)) dNil))) dNil))))))))
def F__law_counts : List D → List D → Iz := runI B__law_counts 3
theorem ok__law_counts (T : Txt P K mg) (hnd : base.NoDigits) (d__law_random : Def P w K mg base 2 "_law_random" ["_law_generator_here", "_law_bound"] (spI K 2 F__law_random)) {f : Addr} {fd : FuncData} (Fu : FunD K "_law_counts" "_law_counts" (defArgs s__law_counts) (defBody s__law_counts) (defScope s__law_counts) [] [] f fd) (hm : mg "_law_counts" = some (.ref f)) :
    FnG P w K mg base 3 f fd ["_law_generator_here"] (spI K 1 F__law_counts) :=
  fnI (N := N__law_counts) (B := B__law_counts) Fu sc__law_counts fun cdv A outer s H E hgd hr => ⟨_, (qss_cons (qs_set (i := 1) (p := false) sc__law_counts.nd rfl (.inl rfl) (QN.e (qn_lst (qa_cons qe_int (qa_cons qe_int (qa_cons qe_int (qa_cons (cqI (p := false) 0 d__law_random hgd (hr.mono (by decide)) (takes_of rfl rfl rfl rfl) (qa_cons qe_int qa_nil) (pv 0)) qa_nil))))))) (qss_cons (qs_set (i := 2) (p := false) sc__law_counts.nd rfl (.inl rfl) (qe_op op_mulW od_mul.toP (qe_op op_powW od_pow.toP (qe_op op_powW od_pow.toP qe_int qe_int) qe_int) (qe_op op_powW od_pow.toP qe_int qe_int))) (qss_one (qs_retn (p := false) (n_cat (qe_var 1) (QN.e (qn_lst (qa_cons (cqI (p := false) 0 d__law_random hgd (hr.mono (by decide)) (takes_of rfl rfl rfl rfl) (qa_cons (qe_op op_powW od_pow.toP qe_int qe_int) qa_nil) (pv 0)) (qa_cons (qe_op op_add od_add.toP (qe_var 2) (cqI (p := false) 0 d__law_random hgd (hr.mono (by decide)) (takes_of rfl rfl rfl rfl) (qa_cons (qe_op op_mulW od_mul.toP qe_int (qe_var 2)) qa_nil) (pv 0))) qa_nil)))))))))⟩
/-! ### _law_differences -/
abbrev s__law_differences : Stmt := topS 26
abbrev N__law_differences : List Str := ["_law_numbers_here", "_law_found", "_law_left", "_law_turn", "_law_at"]
theorem sc__law_differences : FnScope N__law_differences ["_law_numbers_here"] (defScope s__law_differences) := ⟨rfl, rfl, rfl, by decide +kernel, rfl, by decide +kernel, by decide +kernel⟩
def B__law_differences : Ev → Rs := (dSeq (dParNE 1 2 (dLstE dNil) (dOfN (dListOf (dCons (dVar 0) dNil)))) (dSeq (dFor (dRng1 (dCons (dBi bLen (dCons (dVar 0) dNil)) dNil)) (gNm 3) (dSeq (dAppend 1 (dOp fIx (dVar 2) (dC (.int 0)))) (dSet 2 (dOfN (dLc (dRng1 (dCons (dOp fSub (dBi bLen (dCons (dVar 2) dNil)) (dC (.int 1))) dNil)) (gNm 4) dYes (dOp fSub (dOp fIx (dVar 2) (dOp fAdd (dVar 4) (dC (.int 1)))) (dOp fIx (dVar 2) (dVar 4))) [4]))))) (dSeq (dWhile (dAndT (dTst (dOp fNe (dSee 1) (dOfN (dLstE dNil)))) (dTst (dOp fEq (dOp fIxF (dSee 1) (dOp fSub (dBi bLen (dCons (dSee 1) dNil)) (dC (.int 1)))) (dC (.int 0))))) (dPop 1) 100000) (dGive 1))))
def F__law_differences : List D → Fz := runP B__law_differences 5
theorem ok__law_differences (T : Txt P K mg) (hnd : base.NoDigits)  {f : Addr} {fd : FuncData} (Fu : FunD K "_law_differences" "_law_differences" (defArgs s__law_differences) (defBody s__law_differences) (defScope s__law_differences) [] [] f fd) (hm : mg "_law_differences" = some (.ref f)) :
    FnG P w K mg base 1 f fd ["_law_numbers_here"] (spP K 1 F__law_differences) :=
  fnP (N := N__law_differences) (B := B__law_differences) Fu sc__law_differences fun cdv A outer s H E hgd hr => ⟨_, (qss_cons (s_tupNE (i := 1) (k := 2) (p := false) (qn_lst qa_nil) (QN.e (b_list T.n_list (qa_cons (qe_var 0) qa_nil))) rfl sc__law_differences.nd rfl rfl (.inl rfl) (.inr rfl)) (qss_cons (qs_for (p := false) (passes_of rfl) rfl (i_rng1 T.n_range (qa_cons (b_len T.n_len (qa_cons (qe_var 0) qa_nil)) qa_nil)) (qg_name (i := 3) sc__law_differences.nd rfl (.inl rfl)) (qss_cons (s_append (p := false) 1 (qe_ix ix_list op_ixL (qe_var 2) qe_int (fun _ _ => rfl)) (pv 1)) (qss_one (qs_set (i := 2) (p := false) sc__law_differences.nd rfl (.inr rfl) (QN.e (n_lc (own := [("_law_at", 4)]) rfl sc__law_differences.nd (i_rng1 T.n_range (qa_cons (qe_op op_sub od_sub.toP (b_len T.n_len (qa_cons (qe_var 2) qa_nil)) qe_int) qa_nil)) (blkOk_by (own := [("_law_at", 4)]) (N := N__law_differences) (sc := defScope s__law_differences) (by decide +kernel)) (qg_name (i := 4) sc__law_differences.nd rfl (.inl rfl)) qts_nil (qe_op op_sub od_sub.toP (qe_ix ix_list op_ixL (qe_var 2) (qe_op op_add od_add.toP (qe_var 4) qe_int) (fun _ _ => rfl)) (qe_ix ix_list op_ixL (qe_var 2) (qe_var 4) (fun _ _ => rfl))) (fun _ _ _ _ _ => (qg_name (i := 4) sc__law_differences.nd rfl (.inl rfl))) (fun _ _ _ _ _ => qts_nil) (fun _ _ _ _ _ => (qe_op op_sub od_sub.toP (qe_ix ix_list op_ixL (qe_var 2) (qe_op op_add od_add.toP (qe_var 4) qe_int) (fun _ _ => rfl)) (qe_ix ix_list op_ixL (qe_var 2) (qe_var 4) (fun _ _ => rfl)))) (by decide))))))) (qss_cons (qs_while (p := false) 100000 (passes_of rfl) (QW.t (qw_and (qt_cmpR (op_neD hr.units) od_ne (qr_see 1) (QE.r (QN.e (qn_lst qa_nil))) (nomark _)) (qw_and1 (qt_cmp (op_eqD hr.units) od_eq.toP (qe_ixR ix_list od_ixF (qr_see 1) (QE.r (qe_op op_sub od_sub.toP (b_lenR T.n_len (qar_cons (qr_see 1) qar_nil)) qe_int)) (fun _ _ => rfl)) qe_int (nomark _))))) (qss_one (s_pop 1 (pv 1)))) (qss_one (qs_give 1)))))⟩
/-! ### _law_is_row -/
abbrev s__law_is_row : Stmt := topS 27
abbrev N__law_is_row : List Str := ["_law_told", "_law_item"]
theorem sc__law_is_row : FnScope N__law_is_row ["_law_told"] (defScope s__law_is_row) := ⟨rfl, rfl, rfl, by decide +kernel, rfl, by decide +kernel, by decide +kernel⟩
def B__law_is_row : Ev → Rs := (dSeq (dIf (dOrT (dNotT (dTst (dUn (fIsi "list") (dVar 0)))) (dTst (dOp fEq (dOfN (dSlL (dVar 0) (dPart (dOp fSub (dBi bLen (dCons (dVar 0) dNil)) (dC (.int 1)))) dNoP)) (dOfN (dLstE (dCons (dC (.int 0)) dNil)))))) (dRet (dC (.bl false))) dPass) (dRet (dOp fEq (dOfN (dLc (dItems (dVar 0)) (gNm 1) (dOrT (dNotT (dTst (dUn (fIsi "int") (dVar 1)))) (dTst (dUn (fIsi "bool") (dVar 1)))) (dVar 1) [1])) (dOfN (dLstE dNil)))))
def F__law_is_row : List D → Fz := runP B__law_is_row 2
theorem ok__law_is_row (T : Txt P K mg) (hnd : base.NoDigits)  {f : Addr} {fd : FuncData} (Fu : FunD K "_law_is_row" "_law_is_row" (defArgs s__law_is_row) (defBody s__law_is_row) (defScope s__law_is_row) [] [] f fd) (hm : mg "_law_is_row" = some (.ref f)) :
    FnG P w K mg base 1 f fd ["_law_told"] (spP K 1 F__law_is_row) :=
  fnP (N := N__law_is_row) (B := B__law_is_row) Fu sc__law_is_row fun cdv A outer s H E hgd hr => ⟨_, (qss_cons (qs_if (p := false) (QW.t (qw_or (qt_not (QE.t (b_isi "list" T.n_isinstance (qe_var 0) (pe_bltn rfl T.n_list (by decide +kernel) rfl)))) (qw_or1 (qt_cmp (op_eqD hr.units) od_eq.toP (QN.e (qn_slice (qe_var 0) (qo_some (qe_op op_sub od_sub.toP (b_len T.n_len (qa_cons (qe_var 0) qa_nil)) qe_int)) qo_none)) (QN.e (qn_lst (qa_cons qe_int qa_nil))) (nomark _))))) (qss_one (qs_ret (p := false) qe_bl)) qss_nil) (qss_one (qs_ret (p := false) (qe_cmp (op_eqD hr.units) od_eq.toP (QN.e (n_lc (own := [("_law_item", 1)]) rfl sc__law_is_row.nd (i_list (qe_var 0)) (blkOk_by (own := [("_law_item", 1)]) (N := N__law_is_row) (sc := defScope s__law_is_row) (by decide +kernel)) (qg_name (i := 1) sc__law_is_row.nd rfl (.inl rfl)) (qts_one (QW.t (qw_or (qt_not (QE.t (b_isi "int" T.n_isinstance (qe_var 1) (pe_bltn rfl T.n_int (by decide +kernel) rfl)))) (qw_or1 (QE.t (b_isi "bool" T.n_isinstance (qe_var 1) (pe_bltn rfl T.n_bool (by decide +kernel) rfl))))))) (qe_var 1) (fun _ _ _ _ _ => (qg_name (i := 1) sc__law_is_row.nd rfl (.inl rfl))) (fun _ _ _ _ _ => (qts_one (QW.t (qw_or (qt_not (QE.t (b_isi "int" T.n_isinstance (qe_var 1) (pe_bltn rfl T.n_int (by decide +kernel) rfl)))) (qw_or1 (QE.t (b_isi "bool" T.n_isinstance (qe_var 1) (pe_bltn rfl T.n_bool (by decide +kernel) rfl)))))))) (fun _ _ _ _ _ => (qe_var 1)) (by decide))) (QN.e (qn_lst qa_nil)) (nomark _)))))⟩
/-! ### _law_made_right -/
abbrev s__law_made_right : Stmt := topS 28
abbrev N__law_made_right : List Str := ["_law_numbers_here", "_law_handed", "_law_told", "_law_at", "_law_item", "_law_kept"]
theorem sc__law_made_right : FnScope N__law_made_right ["_law_numbers_here"] (defScope s__law_made_right) := ⟨rfl, rfl, rfl, by decide +kernel, rfl, by decide +kernel, by decide +kernel⟩
def B__law_made_right : Ev → Rs := (dSeq (dNew 1 (dListOf (dCons (dVar 0) dNil))) (dSeq (dNew 2 (dCallRN F_binomial_row (dCons (dSee 1) dNil))) (dSeq (dIf (dOrT (dTst (dOp fNe (dUn fRepr (dSee 1)) (dUn fRepr (dVar 0)))) (dOrT (dNotT (dTst (dCallR F__law_is_row (dCons (dSee 2) dNil)))) (dTst (dOp fNe (dSee 2) (dCall F__law_differences (dCons (dVar 0) dNil)))))) (dRet (dC (.bl false))) dPass) (dSeq (dFor (dEnum (dCons (dVar 0) dNil)) (gTwo (gNm 3) (gNm 4)) (dIf (dTst (dOp fNe (dUn fRepr (dCall F_row_value (dCons (dOfN (dListSee 2)) (dCons (dVar 3) dNil)))) (dUn fRepr (dVar 4)))) (dRet (dC (.bl false))) dPass)) (dSeq (dSet 5 (dOfN (dListSee 2))) (dSeq (dAppend 2 (dC (.int 7))) (dSeq (dAppend 1 (dC (.int 7))) (dRet (dAnd (dOp fEq (dUn fRepr (dCall F_binomial_row (dCons (dOfN (dListOf (dCons (dVar 0) dNil))) dNil))) (dUn fRepr (dVar 5))) (dOp fEq (dUn fRepr (dCall F_binomial_row (dRevA (dCons (dOfN (dListOf (dCons (dVar 0) dNil))) dNil)))) (dUn fRepr (dVar 5))))))))))))
def F__law_made_right : List D → Fz := runP B__law_made_right 6
theorem ok__law_made_right (T : Txt P K mg) (hnd : base.NoDigits) (d_row_value : Def P w K mg base 4 "row_value" ["row", "number"] (spP K 2 F_row_value)) (d_binomial_row : Def P w K mg base 2 "binomial_row" ["values"] (spP K 1 F_binomial_row)) (d__law_differences : Def P w K mg base 1 "_law_differences" ["_law_numbers_here"] (spP K 1 F__law_differences)) (d__law_is_row : Def P w K mg base 1 "_law_is_row" ["_law_told"] (spP K 1 F__law_is_row)) (r_binomial_row : DefR P w K mg base 2 "binomial_row" ["values"] (spP K 1 F_binomial_row)) {f : Addr} {fd : FuncData} (Fu : FunD K "_law_made_right" "_law_made_right" (defArgs s__law_made_right) (defBody s__law_made_right) (defScope s__law_made_right) [] [] f fd) (hm : mg "_law_made_right" = some (.ref f)) :
    FnG P w K mg base 5 f fd ["_law_numbers_here"] (spP K 1 F__law_made_right) :=
  fnP (N := N__law_made_right) (B := B__law_made_right) Fu sc__law_made_right fun cdv A outer s H E hgd hr => ⟨_, (qss_cons (qs_new (i := 1) (p := false) sc__law_made_right.nd rfl (.inl rfl) (b_list T.n_list (qa_cons (qe_var 0) qa_nil))) (qss_cons (qs_new (i := 2) (p := false) sc__law_made_right.nd rfl (.inl rfl) (cqRN d_binomial_row hgd (hr.mono (by decide)) (takes_of rfl rfl rfl rfl) (qar_cons (qr_see 1) qar_nil))) (qss_cons (qs_if (p := false) (QW.t (qw_or (qt_cmp (op_neD hr.units) od_ne.toP (b_reprR T.n_repr hgd rfl hr.units hnd (qr_see 1)) (b_repr T.n_repr hgd rfl hr.units hnd (qe_var 0)) (nomark _)) (qw_or (qt_not (QE.t (cqR d__law_is_row hgd (hr.mono (by decide)) (takes_of rfl rfl rfl rfl) (qar_cons (qr_see 2) qar_nil)))) (qw_or1 (qt_cmpR (op_neD hr.units) od_ne (qr_see 2) (QE.r (cq d__law_differences hgd (hr.mono (by decide)) (takes_of rfl rfl rfl rfl) (qa_cons (qe_var 0) qa_nil))) (nomark _)))))) (qss_one (qs_ret (p := false) qe_bl)) qss_nil) (qss_cons (qs_for (p := false) (passes_of rfl) rfl (i_enum T.n_enumerate (qa_cons (qe_var 0) qa_nil)) (qg_two rfl (qg_name (i := 3) sc__law_made_right.nd rfl (.inl rfl)) (qg_name (i := 4) sc__law_made_right.nd rfl (.inl rfl)) (pg_tup rfl (pgs_cons (pg_name (i := 3) sc__law_made_right.nd rfl (Or.inl rfl)) (pgs_cons (pg_name (i := 4) sc__law_made_right.nd rfl (Or.inl rfl)) pgs_nil)))) (qss_one (qs_if (p := false) (qt_cmp (op_neD hr.units) od_ne.toP (b_repr T.n_repr hgd rfl hr.units hnd (cq d_row_value hgd (hr.mono (by decide)) (takes_of rfl rfl rfl rfl) (qa_cons (QN.e (b_listSee 2 T.n_list (pv 2))) (qa_cons (qe_var 3) qa_nil)))) (b_repr T.n_repr hgd rfl hr.units hnd (qe_var 4)) (nomark _)) (qss_one (qs_ret (p := false) qe_bl)) qss_nil))) (qss_cons (qs_set (i := 5) (p := false) sc__law_made_right.nd rfl (.inl rfl) (QN.e (b_listSee 2 T.n_list (pv 2)))) (qss_cons (s_append (p := false) 2 qe_int (pv 2)) (qss_cons (s_append (p := false) 1 qe_int (pv 1)) (qss_one (qs_ret (p := false) (qe_and (qe_cmp (op_eqD hr.units) od_eq.toP (b_repr T.n_repr hgd rfl hr.units hnd (cq d_binomial_row hgd (hr.mono (by decide)) (takes_of rfl rfl rfl rfl) (qa_cons (QN.e (b_list T.n_list (qa_cons (qe_var 0) qa_nil))) qa_nil))) (b_repr T.n_repr hgd rfl hr.units hnd (qe_var 5)) (nomark _)) (qe_one (qe_cmp (op_eqD hr.units) od_eq.toP (b_repr T.n_repr hgd rfl hr.units hnd (cqK r_binomial_row hgd (hr.mono (by decide)) (takes_of rfl rfl rfl rfl) (qk_cons (QN.e (b_list T.n_list (qa_cons (qe_var 0) qa_nil))) qk_nil))) (b_repr T.n_repr hgd rfl hr.units hnd (qe_var 5)) (nomark _)))))))))))))⟩
/-! ### _law_near_right -/
abbrev s__law_near_right : Stmt := topS 29
abbrev N__law_near_right : List Str := ["_law_generator_here", "_law_items", "_law_place", "_law_near", "_law_at"]
theorem sc__law_near_right : FnScope N__law_near_right ["_law_generator_here", "_law_items"] (defScope s__law_near_right) := ⟨rfl, rfl, rfl, by decide +kernel, rfl, by decide +kernel, by decide +kernel⟩
def B__law_near_right : Ev → Rs := (dSeq (dIf (dTst (dOp fEq (dVar 1) (dOfN (dLstE dNil)))) (dRet (dOp fEq (dCall F_row_value (dCons (dOfN (dLstE dNil)) (dCons (dCallI 0 F__law_random (dCons (dOp fPow (dC (.int 10)) (dC (.int 29))) dNil)) dNil))) (dC (.int 0)))) dPass) (dSeq (dSet 2 (dCallI 0 F__law_random (dCons (dBi bLen (dCons (dVar 1) dNil)) dNil))) (dSeq (dNew 3 (dCat (dOfN (dCat (dOfN (dSlL (dVar 1) dNoP (dPart (dVar 2)))) (dOfN (dLstE (dCons (dOp fAdd (dOp fIx (dVar 1) (dVar 2)) (dC (.int 1))) dNil))))) (dOfN (dSlL (dVar 1) (dPart (dOp fAdd (dVar 2) (dC (.int 1)))) dNoP)))) (dSeq (dIf (dTst (dOp fEq (dOp fIxF (dSee 3) (dOp fSub (dBi bLen (dCons (dSee 3) dNil)) (dC (.int 1)))) (dC (.int 0)))) (dPutAt 3 (dOp fSub (dBi bLen (dCons (dSee 3) dNil)) (dC (.int 1))) (dOp fAdd (dOp fIx (dVar 1) (dVar 2)) (dC (.int 2)))) dPass) (dSeq (dFor (dRng1 (dCons (dVar 2) dNil)) (gNm 4) (dIf (dTst (dOp fNe (dCall F_row_value (dCons (dOfN (dListSee 3)) (dCons (dVar 4) dNil))) (dCall F_row_value (dCons (dOfN (dListOf (dCons (dVar 1) dNil))) (dCons (dVar 4) dNil))))) (dRet (dC (.bl false))) dPass)) (dRet (dOp fNe (dCall F_row_value (dCons (dOfN (dListSee 3)) (dCons (dVar 2) dNil))) (dCall F_row_value (dCons (dOfN (dListOf (dCons (dVar 1) dNil))) (dCons (dVar 2) dNil))))))))))
def F__law_near_right : List D → List D → Iz := runI B__law_near_right 5
theorem ok__law_near_right (T : Txt P K mg) (hnd : base.NoDigits) (d_row_value : Def P w K mg base 4 "row_value" ["row", "number"] (spP K 2 F_row_value)) (d__law_random : Def P w K mg base 2 "_law_random" ["_law_generator_here", "_law_bound"] (spI K 2 F__law_random)) {f : Addr} {fd : FuncData} (Fu : FunD K "_law_near_right" "_law_near_right" (defArgs s__law_near_right) (defBody s__law_near_right) (defScope s__law_near_right) [] [] f fd) (hm : mg "_law_near_right" = some (.ref f)) :
    FnG P w K mg base 5 f fd ["_law_generator_here", "_law_items"] (spI K 2 F__law_near_right) :=
  fnI (N := N__law_near_right) (B := B__law_near_right) Fu sc__law_near_right fun cdv A outer s H E hgd hr => ⟨_, (qss_cons (qs_if (p := false) (qt_cmp (op_eqD hr.units) od_eq.toP (qe_var 1) (QN.e (qn_lst qa_nil)) (nomark _)) (qss_one (qs_ret (p := false) (qe_cmp (op_eqD hr.units) od_eq.toP (cq d_row_value hgd (hr.mono (by decide)) (takes_of rfl rfl rfl rfl) (qa_cons (QN.e (qn_lst qa_nil)) (qa_cons (cqI (p := false) 0 d__law_random hgd (hr.mono (by decide)) (takes_of rfl rfl rfl rfl) (qa_cons (qe_op op_powW od_pow.toP qe_int qe_int) qa_nil) (pv 0)) qa_nil))) qe_int (nomark _)))) qss_nil) (qss_cons (qs_set (i := 2) (p := false) sc__law_near_right.nd rfl (.inl rfl) (cqI (p := false) 0 d__law_random hgd (hr.mono (by decide)) (takes_of rfl rfl rfl rfl) (qa_cons (b_len T.n_len (qa_cons (qe_var 1) qa_nil)) qa_nil) (pv 0))) (qss_cons (qs_new (i := 3) (p := false) sc__law_near_right.nd rfl (.inl rfl) (n_cat (QN.e (n_cat (QN.e (qn_slice (qe_var 1) qo_none (qo_some (qe_var 2)))) (QN.e (qn_lst (qa_cons (qe_op op_add od_add.toP (qe_ix ix_list op_ixL (qe_var 1) (qe_var 2) (fun _ _ => rfl)) qe_int) qa_nil))))) (QN.e (qn_slice (qe_var 1) (qo_some (qe_op op_add od_add.toP (qe_var 2) qe_int)) qo_none)))) (qss_cons (qs_if (p := false) (qt_cmp (op_eqD hr.units) od_eq.toP (qe_ixR ix_list od_ixF (qr_see 3) (QE.r (qe_op op_sub od_sub.toP (b_lenR T.n_len (qar_cons (qr_see 3) qar_nil)) qe_int)) (fun _ _ => rfl)) qe_int (nomark _)) (qss_one (s_putAt (p := false) 3 (qe_op op_add od_add.toP (qe_ix ix_list op_ixL (qe_var 1) (qe_var 2) (fun _ _ => rfl)) qe_int) (pv 3) (qe_op op_sub od_sub.toP (b_lenR T.n_len (qar_cons (qr_see 3) qar_nil)) qe_int))) qss_nil) (qss_cons (qs_for (p := false) (passes_of rfl) rfl (i_rng1 T.n_range (qa_cons (qe_var 2) qa_nil)) (qg_name (i := 4) sc__law_near_right.nd rfl (.inl rfl)) (qss_one (qs_if (p := false) (qt_cmp (op_neD hr.units) od_ne.toP (cq d_row_value hgd (hr.mono (by decide)) (takes_of rfl rfl rfl rfl) (qa_cons (QN.e (b_listSee 3 T.n_list (pv 3))) (qa_cons (qe_var 4) qa_nil))) (cq d_row_value hgd (hr.mono (by decide)) (takes_of rfl rfl rfl rfl) (qa_cons (QN.e (b_list T.n_list (qa_cons (qe_var 1) qa_nil))) (qa_cons (qe_var 4) qa_nil))) (nomark _)) (qss_one (qs_ret (p := false) qe_bl)) qss_nil))) (qss_one (qs_ret (p := false) (qe_cmp (op_neD hr.units) od_ne.toP (cq d_row_value hgd (hr.mono (by decide)) (takes_of rfl rfl rfl rfl) (qa_cons (QN.e (b_listSee 3 T.n_list (pv 3))) (qa_cons (qe_var 2) qa_nil))) (cq d_row_value hgd (hr.mono (by decide)) (takes_of rfl rfl rfl rfl) (qa_cons (QN.e (b_list T.n_list (qa_cons (qe_var 1) qa_nil))) (qa_cons (qe_var 2) qa_nil))) (nomark _)))))))))⟩
/-! ### _law_right -/
abbrev s__law_right : Stmt := topS 30
abbrev N__law_right : List Str := ["_law_generator_here", "_law_numbers_here", "_law_more", "_law_low", "_law_high", "_law_low_given", "_law_high_given", "_law_both", "_law_due", "_law_total", "_law_first", "_law_second"]
theorem sc__law_right : FnScope N__law_right ["_law_generator_here"] (defScope s__law_right) := ⟨rfl, rfl, rfl, by decide +kernel, rfl, by decide +kernel, by decide +kernel⟩
def B__law_right : Ev → Rs := (dSeq (dParEE 1 2 (dCallI 0 F__law_numbers dNil) (dCallI 0 F__law_numbers dNil)) (dSeq (dIf (dOrT (dNotT (dTst (dCall F__law_made_right (dCons (dVar 1) dNil)))) (dNotT (dTst (dCall F__law_made_right (dCons (dVar 2) dNil))))) (dRet (dC (.bl false))) dPass) (dSeq (dParEE 3 4 (dCall F__law_differences (dCons (dVar 1) dNil)) (dCall F__law_differences (dCons (dVar 2) dNil))) (dSeq (dParNE 5 6 (dListOf (dCons (dVar 3) dNil)) (dOfN (dListOf (dCons (dVar 4) dNil)))) (dSeq (dNew 7 (dCallRN F_row_product (dCons (dSee 5) (dCons (dVar 6) dNil)))) (dSeq (dIf (dOrT (dTst (dOp fNe (dSee 5) (dVar 3))) (dOrT (dTst (dOp fNe (dVar 6) (dVar 4))) (dNotT (dTst (dCallR F__law_is_row (dCons (dSee 7) dNil)))))) (dRet (dC (.bl false))) dPass) (dSeq (dSet 8 (dIfE (dOrT (dTst (dOp fEq (dVar 3) (dOfN (dLstE dNil)))) (dTst (dOp fEq (dVar 4) (dOfN (dLstE dNil))))) (dC (.int 0)) (dOp fSub (dOp fAdd (dBi bLen (dCons (dVar 3) dNil)) (dBi bLen (dCons (dVar 4) dNil))) (dC (.int 1))))) (dSeq (dIf (dOrT (dTst (dOp fNe (dBi bLen (dCons (dSee 7) dNil)) (dVar 8))) (dTst (dOp fNe (dCall F_row_product (dRevA (dCons (dOfN (dListOf (dCons (dVar 3) dNil))) (dCons (dOfN (dListOf (dCons (dVar 4) dNil))) dNil)))) (dSee 7)))) (dRet (dC (.bl false))) dPass) (dSeq (dFor (dItems (dCallI 0 F__law_counts dNil)) (gNm 9) (dSeq (dParEE 10 11 (dCallR F_row_value (dCons (dSee 5) (dCons (dVar 9) dNil))) (dCall F_row_value (dRevA (dCons (dVar 9) (dCons (dVar 6) dNil))))) (dSeq (dIf (dOrT (dTst (dOp fNe (dUn fRepr (dVar 10)) (dUn fRepr (dCall F__law_value (dCons (dVar 3) (dCons (dVar 9) dNil)))))) (dTst (dOp fNe (dUn fRepr (dVar 11)) (dUn fRepr (dCall F__law_value (dCons (dVar 4) (dCons (dVar 9) dNil))))))) (dRet (dC (.bl false))) dPass) (dIf (dTst (dOp fNe (dCallR F__law_value (dCons (dSee 7) (dCons (dVar 9) dNil))) (dOp fMul (dVar 10) (dVar 11)))) (dRet (dC (.bl false))) dPass)))) (dSeq (dIf (dTst (dOp fLe (dBi bLen (dCons (dSee 7) dNil)) (dC (.int 13)))) (dSeq (dSet 9 (dCallI 0 F__law_random (dCons (dOp fPow (dC (.int 10)) (dC (.int 29))) dNil))) (dIf (dTst (dOp fNe (dCall F_row_value (dCons (dOfN (dListSee 7)) (dCons (dVar 9) dNil))) (dOp fMul (dCall F__law_value (dCons (dVar 3) (dCons (dVar 9) dNil))) (dCall F__law_value (dCons (dVar 4) (dCons (dVar 9) dNil)))))) (dRet (dC (.bl false))) dPass)) dPass) (dSeq (dAppend 7 (dC (.int 5))) (dSeq (dAppend 5 (dC (.int 9))) (dSeq (dIf (dTst (dOp fNe (dCall F_row_product (dCons (dOfN (dListOf (dCons (dVar 3) dNil))) (dCons (dOfN (dListOf (dCons (dVar 4) dNil))) dNil))) (dOfN (dSlL (dFix 7) dNoP (dPart (dOp fSub (dBi bLen (dCons (dVar 7) dNil)) (dC (.int 1)))))))) (dRet (dC (.bl false))) dPass) (dRet (dAnd (dCallI 0 F__law_near_right (dCons (dVar 3) dNil)) (dCallI 0 F__law_near_right (dCons (dVar 4) dNil)))))))))))))))))
def F__law_right : List D → List D → Iz := runI B__law_right 12
theorem ok__law_right (T : Txt P K mg) (hnd : base.NoDigits) (d_row_value : Def P w K mg base 4 "row_value" ["row", "number"] (spP K 2 F_row_value)) (d_row_product : Def P w K mg base 4 "row_product" ["one", "other"] (spP K 2 F_row_product)) (d__law_random : Def P w K mg base 2 "_law_random" ["_law_generator_here", "_law_bound"] (spI K 2 F__law_random)) (d__law_value : Def P w K mg base 2 "_law_value" ["_law_items", "_law_total"] (spP K 2 F__law_value)) (d__law_numbers : Def P w K mg base 4 "_law_numbers" ["_law_generator_here"] (spI K 1 F__law_numbers)) (d__law_counts : Def P w K mg base 3 "_law_counts" ["_law_generator_here"] (spI K 1 F__law_counts)) (d__law_differences : Def P w K mg base 1 "_law_differences" ["_law_numbers_here"] (spP K 1 F__law_differences)) (d__law_is_row : Def P w K mg base 1 "_law_is_row" ["_law_told"] (spP K 1 F__law_is_row)) (d__law_made_right : Def P w K mg base 5 "_law_made_right" ["_law_numbers_here"] (spP K 1 F__law_made_right)) (d__law_near_right : Def P w K mg base 5 "_law_near_right" ["_law_generator_here", "_law_items"] (spI K 2 F__law_near_right)) (r_row_value : DefR P w K mg base 4 "row_value" ["row", "number"] (spP K 2 F_row_value)) (r_row_product : DefR P w K mg base 4 "row_product" ["one", "other"] (spP K 2 F_row_product)) {f : Addr} {fd : FuncData} (Fu : FunD K "_law_right" "_law_right" (defArgs s__law_right) (defBody s__law_right) (defScope s__law_right) [] [] f fd) (hm : mg "_law_right" = some (.ref f)) :
    FnG P w K mg base 6 f fd ["_law_generator_here"] (spI K 1 F__law_right) :=
  fnI (N := N__law_right) (B := B__law_right) Fu sc__law_right fun cdv A outer s H E hgd hr => ⟨_, (qss_cons (s_parEE (i := 1) (k := 2) (p := false) (cqI (p := false) 0 d__law_numbers hgd (hr.mono (by decide)) (takes_of rfl rfl rfl rfl) qa_nil (pv 0)) (cqI (p := false) 0 d__law_numbers hgd (hr.mono (by decide)) (takes_of rfl rfl rfl rfl) qa_nil (pv 0)) rfl sc__law_right.nd rfl rfl (by decide) rfl rfl (by rfl)) (qss_cons (qs_if (p := false) (QW.t (qw_or (qt_not (QE.t (cq d__law_made_right hgd (hr.mono (by decide)) (takes_of rfl rfl rfl rfl) (qa_cons (qe_var 1) qa_nil)))) (qw_or1 (qt_not (QE.t (cq d__law_made_right hgd (hr.mono (by decide)) (takes_of rfl rfl rfl rfl) (qa_cons (qe_var 2) qa_nil))))))) (qss_one (qs_ret (p := false) qe_bl)) qss_nil) (qss_cons (s_parEE (i := 3) (k := 4) (p := false) (cq d__law_differences hgd (hr.mono (by decide)) (takes_of rfl rfl rfl rfl) (qa_cons (qe_var 1) qa_nil)) (cq d__law_differences hgd (hr.mono (by decide)) (takes_of rfl rfl rfl rfl) (qa_cons (qe_var 2) qa_nil)) rfl sc__law_right.nd rfl rfl (by decide) rfl rfl (by rfl)) (qss_cons (s_parNE (i := 5) (k := 6) (p := false) (b_list T.n_list (qa_cons (qe_var 3) qa_nil)) (QN.e (b_list T.n_list (qa_cons (qe_var 4) qa_nil))) rfl sc__law_right.nd rfl rfl (by decide) rfl rfl (by rfl)) (qss_cons (qs_new (i := 7) (p := false) sc__law_right.nd rfl (.inl rfl) (cqRN d_row_product hgd (hr.mono (by decide)) (takes_of rfl rfl rfl rfl) (qar_cons (qr_see 5) (qar_cons (QE.r (qe_var 6)) qar_nil)))) (qss_cons (qs_if (p := false) (QW.t (qw_or (qt_cmpR (op_neD hr.units) od_ne (qr_see 5) (QE.r (qe_var 3)) (nomark _)) (qw_or (qt_cmp (op_neD hr.units) od_ne.toP (qe_var 6) (qe_var 4) (nomark _)) (qw_or1 (qt_not (QE.t (cqR d__law_is_row hgd (hr.mono (by decide)) (takes_of rfl rfl rfl rfl) (qar_cons (qr_see 7) qar_nil)))))))) (qss_one (qs_ret (p := false) qe_bl)) qss_nil) (qss_cons (qs_set (i := 8) (p := false) sc__law_right.nd rfl (.inl rfl) (qe_ifE (QW.t (qw_or (qt_cmp (op_eqD hr.units) od_eq.toP (qe_var 3) (QN.e (qn_lst qa_nil)) (nomark _)) (qw_or1 (qt_cmp (op_eqD hr.units) od_eq.toP (qe_var 4) (QN.e (qn_lst qa_nil)) (nomark _))))) qe_int (qe_op op_sub od_sub.toP (qe_op op_add od_add.toP (b_len T.n_len (qa_cons (qe_var 3) qa_nil)) (b_len T.n_len (qa_cons (qe_var 4) qa_nil))) qe_int))) (qss_cons (qs_if (p := false) (QW.t (qw_or (qt_cmp (op_neD hr.units) od_ne.toP (b_lenR T.n_len (qar_cons (qr_see 7) qar_nil)) (qe_var 8) (nomark _)) (qw_or1 (qt_cmpR (op_neD hr.units) od_ne (QE.r (cqK r_row_product hgd (hr.mono (by decide)) (takes_of rfl rfl rfl rfl) (qk_cons (QN.e (b_list T.n_list (qa_cons (qe_var 3) qa_nil))) (qk_cons (QN.e (b_list T.n_list (qa_cons (qe_var 4) qa_nil))) qk_nil)))) (qr_see 7) (nomark _))))) (qss_one (qs_ret (p := false) qe_bl)) qss_nil) (qss_cons (qs_for (p := false) (passes_of rfl) rfl (i_list (cqI (p := false) 0 d__law_counts hgd (hr.mono (by decide)) (takes_of rfl rfl rfl rfl) qa_nil (pv 0))) (qg_name (i := 9) sc__law_right.nd rfl (.inl rfl)) (qss_cons (s_parEE (i := 10) (k := 11) (p := false) (cqR d_row_value hgd (hr.mono (by decide)) (takes_of rfl rfl rfl rfl) (qar_cons (qr_see 5) (qar_cons (QE.r (qe_var 9)) qar_nil))) (cqK r_row_value hgd (hr.mono (by decide)) (takes_of rfl rfl rfl rfl) (qk_cons (qe_var 9) (qk_cons (qe_var 6) qk_nil))) rfl sc__law_right.nd rfl rfl (by decide) rfl rfl (by rfl)) (qss_cons (qs_if (p := false) (QW.t (qw_or (qt_cmp (op_neD hr.units) od_ne.toP (b_repr T.n_repr hgd rfl hr.units hnd (qe_var 10)) (b_repr T.n_repr hgd rfl hr.units hnd (cq d__law_value hgd (hr.mono (by decide)) (takes_of rfl rfl rfl rfl) (qa_cons (qe_var 3) (qa_cons (qe_var 9) qa_nil)))) (nomark _)) (qw_or1 (qt_cmp (op_neD hr.units) od_ne.toP (b_repr T.n_repr hgd rfl hr.units hnd (qe_var 11)) (b_repr T.n_repr hgd rfl hr.units hnd (cq d__law_value hgd (hr.mono (by decide)) (takes_of rfl rfl rfl rfl) (qa_cons (qe_var 4) (qa_cons (qe_var 9) qa_nil)))) (nomark _))))) (qss_one (qs_ret (p := false) qe_bl)) qss_nil) (qss_one (qs_if (p := false) (qt_cmp (op_neD hr.units) od_ne.toP (cqR d__law_value hgd (hr.mono (by decide)) (takes_of rfl rfl rfl rfl) (qar_cons (qr_see 7) (qar_cons (QE.r (qe_var 9)) qar_nil))) (qe_op op_mulW od_mul.toP (qe_var 10) (qe_var 11)) (nomark _)) (qss_one (qs_ret (p := false) qe_bl)) qss_nil))))) (qss_cons (qs_if (p := false) (qt_cmp op_le od_le.toP (b_lenR T.n_len (qar_cons (qr_see 7) qar_nil)) qe_int (nomark _)) (qss_cons (qs_set (i := 9) (p := false) sc__law_right.nd rfl (.inl rfl) (cqI (p := false) 0 d__law_random hgd (hr.mono (by decide)) (takes_of rfl rfl rfl rfl) (qa_cons (qe_op op_powW od_pow.toP qe_int qe_int) qa_nil) (pv 0))) (qss_one (qs_if (p := false) (qt_cmp (op_neD hr.units) od_ne.toP (cq d_row_value hgd (hr.mono (by decide)) (takes_of rfl rfl rfl rfl) (qa_cons (QN.e (b_listSee 7 T.n_list (pv 7))) (qa_cons (qe_var 9) qa_nil))) (qe_op op_mulW od_mul.toP (cq d__law_value hgd (hr.mono (by decide)) (takes_of rfl rfl rfl rfl) (qa_cons (qe_var 3) (qa_cons (qe_var 9) qa_nil))) (cq d__law_value hgd (hr.mono (by decide)) (takes_of rfl rfl rfl rfl) (qa_cons (qe_var 4) (qa_cons (qe_var 9) qa_nil)))) (nomark _)) (qss_one (qs_ret (p := false) qe_bl)) qss_nil))) qss_nil) (qss_cons (s_append (p := false) 7 qe_int (pv 7)) (qss_cons (s_append (p := false) 5 qe_int (pv 5)) (qss_cons (qs_if (p := false) (qt_cmp (op_neD hr.units) od_ne.toP (cq d_row_product hgd (hr.mono (by decide)) (takes_of rfl rfl rfl rfl) (qa_cons (QN.e (b_list T.n_list (qa_cons (qe_var 3) qa_nil))) (qa_cons (QN.e (b_list T.n_list (qa_cons (qe_var 4) qa_nil))) qa_nil))) (QN.e (qn_slice (qe_fix 7) qo_none (qo_some (qe_op op_sub od_sub.toP (b_len T.n_len (qa_cons (qe_var 7) qa_nil)) qe_int)))) (nomark _)) (qss_one (qs_ret (p := false) qe_bl)) qss_nil) (qss_one (qs_ret (p := false) (qe_and (cqI (p := false) 0 d__law_near_right hgd (hr.mono (by decide)) (takes_of rfl rfl rfl rfl) (qa_cons (qe_var 3) qa_nil) (pv 0)) (qe_one (cqI (p := false) 0 d__law_near_right hgd (hr.mono (by decide)) (takes_of rfl rfl rfl rfl) (qa_cons (qe_var 4) qa_nil) (pv 0)))))))))))))))))))⟩
/-! ### _law_caught -/
abbrev s__law_caught : Stmt := topS 31
abbrev N__law_caught : List Str := ["_law_which", "_law_given", "_law_error", "e"]
theorem sc__law_caught : FnScope N__law_caught ["_law_which", "_law_given"] (defScope s__law_caught) := ⟨rfl, rfl, rfl, by decide +kernel, rfl, by decide +kernel, by decide +kernel⟩
def B__law_caught : Ev → Rs := (dSeq (dSet 2 (dC .non)) (dSeq (dTry cx_SkipError 3 (dIf (dTst (dOp fEq (dVar 0) (dC (.int 0)))) (dDrop (dCall F_row_value (dCons (dOp fIx (dVar 1) (dC (.int 0))) (dCons (dOp fIx (dVar 1) (dC (.int 1))) dNil)))) (dIf (dTst (dOp fEq (dVar 0) (dC (.int 1)))) (dDrop (dCall F_row_product (dCons (dOp fIx (dVar 1) (dC (.int 0))) (dCons (dOp fIx (dVar 1) (dC (.int 1))) dNil)))) (dDrop (dCall F_binomial_row (dCons (dOp fIx (dVar 1) (dC (.int 0))) dNil))))) (dSet 2 (dVar 3))) (dSeq (dIf (dNotT (dTst (dUn (fIsX cf_ValueError (fIsi "ValueError")) (dVar 2)))) (dRetN (dLstE (dCons (dC (.str "none")) (dCons (dC (.str "")) dNil)))) dPass) (dSeq (dIf (dAndT (dTst (dUn (fIsX cf_InvalidList fNever) (dVar 2))) (dNotT (dTst (dUn (fIsX cf_InvalidNumber fNever) (dVar 2))))) (dRetN (dLstE (dCons (dC (.str "list")) (dCons (dUn fRepr (dVal okv (dVar 2))) dNil)))) dPass) (dSeq (dIf (dAndT (dTst (dUn (fIsX cf_InvalidNumber fNever) (dVar 2))) (dNotT (dTst (dUn (fIsX cf_InvalidList fNever) (dVar 2))))) (dRetN (dLstE (dCons (dC (.str "number")) (dCons (dUn fRepr (dVal okv (dVar 2))) dNil)))) dPass) (dRetN (dLstE (dCons (dC (.str "other")) (dCons (dC (.str "")) dNil)))))))))
def F__law_caught : List D → Fz := runP B__law_caught 4
theorem ok__law_caught (T : Txt P K mg) (hnd : base.NoDigits) (d_row_value : Def P w K mg base 4 "row_value" ["row", "number"] (spP K 2 F_row_value)) (d_binomial_row : Def P w K mg base 2 "binomial_row" ["values"] (spP K 1 F_binomial_row)) (d_row_product : Def P w K mg base 4 "row_product" ["one", "other"] (spP K 2 F_row_product)) {f : Addr} {fd : FuncData} (Fu : FunD K "_law_caught" "_law_caught" (defArgs s__law_caught) (defBody s__law_caught) (defScope s__law_caught) [] [] f fd) (hm : mg "_law_caught" = some (.ref f)) :
    FnG P w K mg base 5 f fd ["_law_which", "_law_given"] (spP K 2 F__law_caught) :=
  fnP (N := N__law_caught) (B := B__law_caught) Fu sc__law_caught fun cdv A outer s H E hgd hr => ⟨_, (qss_cons (qs_set (i := 2) (p := false) sc__law_caught.nd rfl (.inl rfl) qe_non) (qss_cons (qs_try (i := 3) (W1 := W0) cx_SkipError rfl rfl rfl sc__law_caught.nd rfl rfl ⟨rfl, by decide, .inl T.g_SkipError⟩ (takes_of rfl rfl rfl rfl) T.e_SkipError (fun W tk pa => (qss_one (qs_if (p := false) (qt_cmp (op_eqD hr.units) od_eq.toP (qe_var 0) qe_int (nomark _)) (qss_one (qs_expr (p := false) (cq d_row_value hgd (hr.mono (by decide)) tk (qa_cons (qe_ix ix_list op_ixL (qe_var 1) qe_int (fun _ _ => rfl)) (qa_cons (qe_ix ix_list op_ixL (qe_var 1) qe_int (fun _ _ => rfl)) qa_nil))))) (qss_one (qs_if (p := false) (qt_cmp (op_eqD hr.units) od_eq.toP (qe_var 0) qe_int (nomark _)) (qss_one (qs_expr (p := false) (cq d_row_product hgd (hr.mono (by decide)) tk (qa_cons (qe_ix ix_list op_ixL (qe_var 1) qe_int (fun _ _ => rfl)) (qa_cons (qe_ix ix_list op_ixL (qe_var 1) qe_int (fun _ _ => rfl)) qa_nil))))) (qss_one (qs_expr (p := false) (cq d_binomial_row hgd (hr.mono (by decide)) tk (qa_cons (qe_ix ix_list op_ixL (qe_var 1) qe_int (fun _ _ => rfl)) qa_nil))))))))) (qss_one (qs_set (i := 2) (p := false) sc__law_caught.nd rfl (.inl rfl) (qe_var 3))) (fun pn xe W tk pa => (qss_one (qs_if (p := false) (qt_cmp (op_eqD hr.units) od_eq.toP (qe_var 0) qe_int (nomark _)) (qss_one (qs_expr (p := false) (cq d_row_value hgd (hr.mono (by decide)) tk (qa_cons (qe_ix ix_list op_ixL (qe_var 1) qe_int (fun _ _ => rfl)) (qa_cons (qe_ix ix_list op_ixL (qe_var 1) qe_int (fun _ _ => rfl)) qa_nil))))) (qss_one (qs_if (p := false) (qt_cmp (op_eqD hr.units) od_eq.toP (qe_var 0) qe_int (nomark _)) (qss_one (qs_expr (p := false) (cq d_row_product hgd (hr.mono (by decide)) tk (qa_cons (qe_ix ix_list op_ixL (qe_var 1) qe_int (fun _ _ => rfl)) (qa_cons (qe_ix ix_list op_ixL (qe_var 1) qe_int (fun _ _ => rfl)) qa_nil))))) (qss_one (qs_expr (p := false) (cq d_binomial_row hgd (hr.mono (by decide)) tk (qa_cons (qe_ix ix_list op_ixL (qe_var 1) qe_int (fun _ _ => rfl)) qa_nil))))))))) (fun a pn => (qss_one (qs_set (i := 2) (p := false) sc__law_caught.nd rfl (.inl rfl) (qe_var 3))))) (qss_cons (qs_if (p := false) (qt_not (QE.t (b_isXb "ValueError" cf_ValueError T.n_isinstance (qe_var 2) T.i_ValueError (pe_bltn rfl T.n_ValueError (by decide +kernel) rfl)))) (qss_one (qs_retn (p := false) (qn_lst (qa_cons qe_str (qa_cons qe_str qa_nil))))) qss_nil) (qss_cons (qs_if (p := false) (QW.t (qw_and (QE.t (b_isXo cf_InvalidList T.n_isinstance (qe_var 2) T.i_InvalidList T.g_InvalidList)) (qw_and1 (qt_not (QE.t (b_isXo cf_InvalidNumber T.n_isinstance (qe_var 2) T.i_InvalidNumber T.g_InvalidNumber)))))) (qss_one (qs_retn (p := false) (qn_lst (qa_cons qe_str (qa_cons (b_repr T.n_repr hgd rfl hr.units hnd (e_val okv T.v_ok (qe_var 2))) qa_nil))))) qss_nil) (qss_cons (qs_if (p := false) (QW.t (qw_and (QE.t (b_isXo cf_InvalidNumber T.n_isinstance (qe_var 2) T.i_InvalidNumber T.g_InvalidNumber)) (qw_and1 (qt_not (QE.t (b_isXo cf_InvalidList T.n_isinstance (qe_var 2) T.i_InvalidList T.g_InvalidList)))))) (qss_one (qs_retn (p := false) (qn_lst (qa_cons qe_str (qa_cons (b_repr T.n_repr hgd rfl hr.units hnd (e_val okv T.v_ok (qe_var 2))) qa_nil))))) qss_nil) (qss_one (qs_retn (p := false) (qn_lst (qa_cons qe_str (qa_cons qe_str qa_nil))))))))))⟩
/-! ### _law_refused -/
abbrev s__law_refused : Stmt := topS 32
abbrev N__law_refused : List Str := ["_law_odd", "_law_bad"]
theorem sc__law_refused : FnScope N__law_refused [] (defScope s__law_refused) := ⟨rfl, rfl, rfl, by decide +kernel, rfl, by decide +kernel, by decide +kernel⟩
def B__law_refused : Ev → Rs := (dSeq (dSet 0 (dOfN (dLstE (dCons (dC .non) (dCons (dC (.int 7)) (dCons (dTupE dNil) (dCons (dTupE (dCons (dC (.int 1)) dNil)) (dCons (dC (.str "1")) (dCons (dOfN (dLstE (dCons (dC (.bl true)) dNil))) (dCons (dOfN (dLstE (dCons (dC (.int 1)) (dCons (dC .non) dNil)))) (dCons (dOfN (dLstE (dCons (dC (.int 1)) (dCons (dC (.str "2")) dNil)))) (dCons (dOfN (dLstE (dCons (dOfN (dLstE (dCons (dC (.int 1)) dNil))) dNil))) (dCons (dOfN (dLstE (dCons (dC (.int 1)) (dCons (dOfN (dLstE (dCons (dC (.int 2)) dNil))) (dCons (dC (.int 3)) dNil))))) (dCons (dC (.dic [])) (dCons (dC (.dic [(.inl 0, .int 1)])) dNil))))))))))))))) (dSeq (dFor (dItems (dOfN (dCat (dVar 0) (dOfN (dLstE (dCons (dOfN (dLstE (dCons (dC (.int 0)) dNil))) (dCons (dOfN (dLstE (dCons (dC (.int 1)) (dCons (dC (.int 0)) dNil)))) (dCons (dOfN (dLstE (dCons (dC (.int 0)) (dCons (dC (.int 0)) dNil)))) (dCons (dOfN (dLstE (dCons (dC (.int 3)) (dCons (dC (.bl false)) dNil)))) dNil))))))))) (gNm 1) (dSeq (dIf (dOrT (dTst (dOp fNe (dCall F__law_caught (dCons (dC (.int 0)) (dCons (dOfN (dLstE (dCons (dVar 1) (dCons (dC (.str "x")) dNil)))) dNil))) (dOfN (dLstE (dCons (dC (.str "list")) (dCons (dUn fRepr (dVar 1)) dNil)))))) (dTst (dOp fNe (dCall F__law_caught (dCons (dC (.int 1)) (dCons (dOfN (dLstE (dCons (dVar 1) (dCons (dC .non) dNil)))) dNil))) (dOfN (dLstE (dCons (dC (.str "list")) (dCons (dUn fRepr (dVar 1)) dNil))))))) (dRet (dC (.bl false))) dPass) (dIf (dTst (dOp fNe (dCall F__law_caught (dCons (dC (.int 1)) (dCons (dOfN (dLstE (dCons (dOfN (dLstE (dCons (dC (.int 2)) dNil))) (dCons (dVar 1) dNil)))) dNil))) (dOfN (dLstE (dCons (dC (.str "list")) (dCons (dUn fRepr (dVar 1)) dNil)))))) (dRet (dC (.bl false))) dPass))) (dSeq (dIf (dOrT (dTst (dOp fNe (dCall F__law_caught (dCons (dC (.int 0)) (dCons (dOfN (dLstE (dCons (dOfN (dLstE dNil)) (dCons (dUn fNeg (dC (.int 1))) dNil)))) dNil))) (dOfN (dLstE (dCons (dC (.str "number")) (dCons (dC (.str "-1")) dNil)))))) (dTst (dOp fNe (dCall F__law_caught (dCons (dC (.int 1)) (dCons (dOfN (dLstE (dCons (dOfN (dLstE dNil)) (dCons (dOfN (dLstE (dCons (dC (.int 0)) dNil))) dNil)))) dNil))) (dOfN (dLstE (dCons (dC (.str "list")) (dCons (dC (.str "[0]")) dNil))))))) (dRet (dC (.bl false))) dPass) (dSeq (dFor (dItems (dVar 0)) (gNm 1) (dIf (dTst (dOp fNe (dCall F__law_caught (dCons (dC (.int 2)) (dCons (dOfN (dLstE (dCons (dVar 1) dNil))) dNil))) (dOfN (dLstE (dCons (dC (.str "list")) (dCons (dUn fRepr (dVar 1)) dNil)))))) (dRet (dC (.bl false))) dPass)) (dSeq (dFor (dItems (dOfN (dLstE (dCons (dC .non) (dCons (dUn fNeg (dC (.int 1))) (dCons (dC (.bl true)) (dCons (dC (.bl false)) (dCons (dC (.str "0")) (dCons (dOfN (dLstE (dCons (dC (.int 0)) dNil))) (dCons (dUn fNeg (dOp fPow (dC (.int 10)) (dC (.int 29)))) dNil)))))))))) (gNm 1) (dIf (dTst (dOp fNe (dCall F__law_caught (dCons (dC (.int 0)) (dCons (dOfN (dLstE (dCons (dOfN (dLstE (dCons (dC (.int 0)) (dCons (dC (.int 2)) dNil)))) (dCons (dVar 1) dNil)))) dNil))) (dOfN (dLstE (dCons (dC (.str "number")) (dCons (dUn fRepr (dVar 1)) dNil)))))) (dRet (dC (.bl false))) dPass)) (dRet (dAnd (dOp fEq (dCall F_binomial_row (dCons (dOfN (dLstE (dCons (dC (.int 0)) dNil))) dNil)) (dOfN (dLstE dNil))) (dAnd (dOp fEq (dCall F_binomial_row (dCons (dOfN (dLstE dNil)) dNil)) (dOfN (dLstE dNil))) (dOp fEq (dCall F_binomial_row (dCons (dOfN (dLstE (dCons (dC (.int 1)) (dCons (dC (.int 1)) (dCons (dC (.int 0)) dNil))))) dNil)) (dOfN (dLstE (dCons (dC (.int 1)) (dCons (dC (.int 0)) (dCons (dUn fNeg (dC (.int 1))) dNil))))))))))))))
def F__law_refused : List D → Fz := runP B__law_refused 2
theorem ok__law_refused (T : Txt P K mg) (hnd : base.NoDigits) (d_binomial_row : Def P w K mg base 2 "binomial_row" ["values"] (spP K 1 F_binomial_row)) (d__law_caught : Def P w K mg base 5 "_law_caught" ["_law_which", "_law_given"] (spP K 2 F__law_caught)) {f : Addr} {fd : FuncData} (Fu : FunD K "_law_refused" "_law_refused" (defArgs s__law_refused) (defBody s__law_refused) (defScope s__law_refused) [] [] f fd) (hm : mg "_law_refused" = some (.ref f)) :
    FnG P w K mg base 6 f fd [] (spP K 0 F__law_refused) :=
  fnP (N := N__law_refused) (B := B__law_refused) Fu sc__law_refused fun cdv A outer s H E hgd hr => ⟨_, (qss_cons (qs_set (i := 0) (p := false) sc__law_refused.nd rfl (.inl rfl) (QN.e (qn_lst (qa_cons qe_non (qa_cons qe_int (qa_cons (qe_tup qa_nil) (qa_cons (qe_tup (qa_cons qe_int qa_nil)) (qa_cons qe_str (qa_cons (QN.e (qn_lst (qa_cons qe_bl qa_nil))) (qa_cons (QN.e (qn_lst (qa_cons qe_int (qa_cons qe_non qa_nil)))) (qa_cons (QN.e (qn_lst (qa_cons qe_int (qa_cons qe_str qa_nil)))) (qa_cons (QN.e (qn_lst (qa_cons (QN.e (qn_lst (qa_cons qe_int qa_nil))) qa_nil))) (qa_cons (QN.e (qn_lst (qa_cons qe_int (qa_cons (QN.e (qn_lst (qa_cons qe_int qa_nil))) (qa_cons qe_int qa_nil))))) (qa_cons e_dic0 (qa_cons (e_dic1 (i := 0) (j := 1) pe_int pe_int) qa_nil))))))))))))))) (qss_cons (qs_for (p := false) (passes_of rfl) rfl (i_list (QN.e (n_cat (qe_var 0) (QN.e (qn_lst (qa_cons (QN.e (qn_lst (qa_cons qe_int qa_nil))) (qa_cons (QN.e (qn_lst (qa_cons qe_int (qa_cons qe_int qa_nil)))) (qa_cons (QN.e (qn_lst (qa_cons qe_int (qa_cons qe_int qa_nil)))) (qa_cons (QN.e (qn_lst (qa_cons qe_int (qa_cons qe_bl qa_nil)))) qa_nil))))))))) (qg_name (i := 1) sc__law_refused.nd rfl (.inl rfl)) (qss_cons (qs_if (p := false) (QW.t (qw_or (qt_cmp (op_neD hr.units) od_ne.toP (cq d__law_caught hgd (hr.mono (by decide)) (takes_of rfl rfl rfl rfl) (qa_cons qe_int (qa_cons (QN.e (qn_lst (qa_cons (qe_var 1) (qa_cons qe_str qa_nil)))) qa_nil))) (QN.e (qn_lst (qa_cons qe_str (qa_cons (b_repr T.n_repr hgd rfl hr.units hnd (qe_var 1)) qa_nil)))) (nomark _)) (qw_or1 (qt_cmp (op_neD hr.units) od_ne.toP (cq d__law_caught hgd (hr.mono (by decide)) (takes_of rfl rfl rfl rfl) (qa_cons qe_int (qa_cons (QN.e (qn_lst (qa_cons (qe_var 1) (qa_cons qe_non qa_nil)))) qa_nil))) (QN.e (qn_lst (qa_cons qe_str (qa_cons (b_repr T.n_repr hgd rfl hr.units hnd (qe_var 1)) qa_nil)))) (nomark _))))) (qss_one (qs_ret (p := false) qe_bl)) qss_nil) (qss_one (qs_if (p := false) (qt_cmp (op_neD hr.units) od_ne.toP (cq d__law_caught hgd (hr.mono (by decide)) (takes_of rfl rfl rfl rfl) (qa_cons qe_int (qa_cons (QN.e (qn_lst (qa_cons (QN.e (qn_lst (qa_cons qe_int qa_nil))) (qa_cons (qe_var 1) qa_nil)))) qa_nil))) (QN.e (qn_lst (qa_cons qe_str (qa_cons (b_repr T.n_repr hgd rfl hr.units hnd (qe_var 1)) qa_nil)))) (nomark _)) (qss_one (qs_ret (p := false) qe_bl)) qss_nil)))) (qss_cons (qs_if (p := false) (QW.t (qw_or (qt_cmp (op_neD hr.units) od_ne.toP (cq d__law_caught hgd (hr.mono (by decide)) (takes_of rfl rfl rfl rfl) (qa_cons qe_int (qa_cons (QN.e (qn_lst (qa_cons (QN.e (qn_lst qa_nil)) (qa_cons (qe_un un_neg ud_neg qe_int) qa_nil)))) qa_nil))) (QN.e (qn_lst (qa_cons qe_str (qa_cons qe_str qa_nil)))) (nomark _)) (qw_or1 (qt_cmp (op_neD hr.units) od_ne.toP (cq d__law_caught hgd (hr.mono (by decide)) (takes_of rfl rfl rfl rfl) (qa_cons qe_int (qa_cons (QN.e (qn_lst (qa_cons (QN.e (qn_lst qa_nil)) (qa_cons (QN.e (qn_lst (qa_cons qe_int qa_nil))) qa_nil)))) qa_nil))) (QN.e (qn_lst (qa_cons qe_str (qa_cons qe_str qa_nil)))) (nomark _))))) (qss_one (qs_ret (p := false) qe_bl)) qss_nil) (qss_cons (qs_for (p := false) (passes_of rfl) rfl (i_list (qe_var 0)) (qg_name (i := 1) sc__law_refused.nd rfl (.inl rfl)) (qss_one (qs_if (p := false) (qt_cmp (op_neD hr.units) od_ne.toP (cq d__law_caught hgd (hr.mono (by decide)) (takes_of rfl rfl rfl rfl) (qa_cons qe_int (qa_cons (QN.e (qn_lst (qa_cons (qe_var 1) qa_nil))) qa_nil))) (QN.e (qn_lst (qa_cons qe_str (qa_cons (b_repr T.n_repr hgd rfl hr.units hnd (qe_var 1)) qa_nil)))) (nomark _)) (qss_one (qs_ret (p := false) qe_bl)) qss_nil))) (qss_cons (qs_for (p := false) (passes_of rfl) rfl (i_list (QN.e (qn_lst (qa_cons qe_non (qa_cons (qe_un un_neg ud_neg qe_int) (qa_cons qe_bl (qa_cons qe_bl (qa_cons qe_str (qa_cons (QN.e (qn_lst (qa_cons qe_int qa_nil))) (qa_cons (qe_un un_neg ud_neg (qe_op op_powW od_pow.toP qe_int qe_int)) qa_nil)))))))))) (qg_name (i := 1) sc__law_refused.nd rfl (.inl rfl)) (qss_one (qs_if (p := false) (qt_cmp (op_neD hr.units) od_ne.toP (cq d__law_caught hgd (hr.mono (by decide)) (takes_of rfl rfl rfl rfl) (qa_cons qe_int (qa_cons (QN.e (qn_lst (qa_cons (QN.e (qn_lst (qa_cons qe_int (qa_cons qe_int qa_nil)))) (qa_cons (qe_var 1) qa_nil)))) qa_nil))) (QN.e (qn_lst (qa_cons qe_str (qa_cons (b_repr T.n_repr hgd rfl hr.units hnd (qe_var 1)) qa_nil)))) (nomark _)) (qss_one (qs_ret (p := false) qe_bl)) qss_nil))) (qss_one (qs_ret (p := false) (qe_and (qe_cmp (op_eqD hr.units) od_eq.toP (cq d_binomial_row hgd (hr.mono (by decide)) (takes_of rfl rfl rfl rfl) (qa_cons (QN.e (qn_lst (qa_cons qe_int qa_nil))) qa_nil)) (QN.e (qn_lst qa_nil)) (nomark _)) (qe_and (qe_cmp (op_eqD hr.units) od_eq.toP (cq d_binomial_row hgd (hr.mono (by decide)) (takes_of rfl rfl rfl rfl) (qa_cons (QN.e (qn_lst qa_nil)) qa_nil)) (QN.e (qn_lst qa_nil)) (nomark _)) (qe_one (qe_cmp (op_eqD hr.units) od_eq.toP (cq d_binomial_row hgd (hr.mono (by decide)) (takes_of rfl rfl rfl rfl) (qa_cons (QN.e (qn_lst (qa_cons qe_int (qa_cons qe_int (qa_cons qe_int qa_nil))))) qa_nil)) (QN.e (qn_lst (qa_cons qe_int (qa_cons qe_int (qa_cons (qe_un un_neg ud_neg qe_int) qa_nil))))) (nomark _))))))))))))⟩
/-! ### law -/
abbrev s_law : Stmt := topS 33
abbrev N_law : List Str := ["_law_script", "_law_index"]
theorem sc_law : FnScope N_law ["_law_script"] (defScope s_law) := ⟨rfl, rfl, rfl, by decide +kernel, rfl, by decide +kernel, by decide +kernel⟩
def B_law : Ev → Rs := (dSeq (dFor (dRng1 (dCons (dC (.int 3)) dNil)) (gNm 1) (dIf (dNotT (dTst (dCallT F__law_right (dCallN F__law_generator (dCons (dVar 0) (dCons (dVar 1) dNil))) dNil))) (dRet (dC (.bl false))) dPass)) (dRet (dCall F__law_refused dNil)))
def F_law : List D → Fz := runP B_law 2
theorem ok_law (T : Txt P K mg) (hnd : base.NoDigits) (d__law_generator : Def P w K mg base 2 "_law_generator" ["_law_script", "_law_index"] (spP K 2 F__law_generator)) (d__law_right : Def P w K mg base 6 "_law_right" ["_law_generator_here"] (spI K 1 F__law_right)) (d__law_refused : Def P w K mg base 6 "_law_refused" [] (spP K 0 F__law_refused)) {f : Addr} {fd : FuncData} (Fu : FunD K "law" "law" (defArgs s_law) (defBody s_law) (defScope s_law) [] [] f fd) (hm : mg "law" = some (.ref f)) :
    FnG P w K mg base 7 f fd ["_law_script"] (spP K 1 F_law) :=
  fnP (N := N_law) (B := B_law) Fu sc_law fun cdv A outer s H E hgd hr => ⟨_, (qss_cons (qs_for (p := false) (passes_of rfl) rfl (i_rng1 T.n_range (qa_cons qe_int qa_nil)) (qg_name (i := 1) sc_law.nd rfl (.inl rfl)) (qss_one (qs_if (p := false) (qt_not (QE.t (cqT (p := false) d__law_right hgd (hr.mono (by decide)) (takes_of rfl rfl rfl rfl) (cqN d__law_generator hgd (hr.mono (by decide)) (takes_of rfl rfl rfl rfl) (qa_cons (qe_var 0) (qa_cons (qe_var 1) qa_nil))) qa_nil))) (qss_one (qs_ret (p := false) qe_bl)) qss_nil))) (qss_one (qs_ret (p := false) (cq0 d__law_refused hgd (hr.mono (by decide)) (takes_of rfl rfl rfl rfl)))))⟩
end
end T66
set_option Elab.async false
set_option linter.all false
set_option maxRecDepth 100000
set_option maxHeartbeats 4000000
namespace T66
open PySem PySem.Spec PyProof.Rows L2 DL MN
/-- a slot that may be written -/
def Pl (s : Sl) : Prop := s = .un ∨ ∃ d, s = .dat d
theorem pl_un : Pl .un := .inl rfl
theorem pl_dat {d : D} : Pl (.dat d) := .inr ⟨d, rfl⟩
theorem put_pl {i : Nat} {s t : Sl} {e : Ev} (h : e[i]? = some s) (p : Pl s) : put i t e = some (e.set i t) := by
  unfold put
  rw [h]
  rcases p with rfl | ⟨d, rfl⟩ <;> rfl
/-! ### sizes -/
theorem ch_le : ∀ (n k : Nat), ch n k ≤ n ^ k
  | n, 0 => by rw [ch_zero]; exact Nat.le_of_eq (Nat.pow_zero n).symm
  | n, k + 1 => by
    have h1 := ch_step n k
    have h2 := ch_le n k
    calc ch n (k + 1) ≤ ch n (k + 1) * (k + 1) := Nat.le_mul_of_pos_right _ (by omega)
      _ = ch n k * (n - k) := h1
      _ ≤ n ^ k * n := Nat.mul_le_mul h2 (by omega)
      _ = n ^ (k + 1) := rfl
theorem ch_lt {n k B : Nat} (hn : n < 2 ^ B) : ch n k < 2 ^ (B * k + 1) := by
  have h1 := ch_le n k
  have h2 : n ^ k ≤ (2 ^ B) ^ k := Nat.pow_le_pow_left (Nat.le_of_lt hn) k
  rw [← Nat.pow_mul] at h2
  have h3 : 2 ^ (B * k) < 2 ^ (B * k + 1) := Nat.pow_lt_pow_right (by decide) (by omega)
  omega
/-! ### row_at -/
theorem row_at_loop {D0 : D} {n A B : Nat} (hA : 0 < A) (hB : 8 ≤ B) (hn : n < 2 ^ B) : ∀ (r : List Int) (k : Nat) (f : Int) (s4 s5 : Sl), Pl s4 → Pl s5 → (∀ x ∈ r, x.natAbs < 2 ^ A) → k + r.length ≤ 200 → A + B * 201 + 2 ≤ 1000000 →
    ∃ s4' s5', dLoop (gTwo (gNm 4) (gNm 5)) (dSeq (dSet 2 (dOp fAdd (dVar 2) (dOp fMul (dVar 5) (dVar 3)))) (dSet 3 (dOp fDiv (dOp fMul (dVar 3) (dOp fSub (dVar 1) (dVar 4))) (dOp fAdd (dVar 4) (dC (.int 1)))))) (enumD k (LI r))
      [.dat D0, .dat (.int n), .dat (.int f), .dat (.int (ch n k : Nat)), s4, s5] = .nx [.dat D0, .dat (.int n), .dat (.int (f + valFrom n k r)), .dat (.int (ch n (k + r.length) : Nat)), s4', s5']
  | [], k, f, s4, s5, _, _, _, _, _ => ⟨s4, s5, by simp [valFrom, enumD, loop_nil]⟩
  | x :: r, k, f, s4, s5, p4, p5, hx, hk, hz => by
    have hlen : (x :: r).length = r.length + 1 := rfl
    obtain ⟨s4', s5', ih⟩ := row_at_loop (D0 := D0) hA hB hn r (k + 1) (f + x * (ch n k : Nat)) (.dat (.int (k : Nat))) (.dat (.int x)) pl_dat pl_dat (fun y hy => hx y (List.mem_cons_of_mem _ hy)) (by omega) hz
    have c1 : ch n k < 2 ^ (B * k + 1) := ch_lt hn
    have kB : B * k ≤ B * 200 := Nat.mul_le_mul (Nat.le_refl _) (by omega)
    have k2 : (2 : Nat) ^ 8 ≤ 2 ^ B := Nat.pow_le_pow_right (by decide) hB
    have m1 : CMulW x (ch n k : Nat) := wide_mul (a := A) (b := B * k + 1) (hx x List.mem_cons_self) (by simpa using c1) hA (by omega) (by omega)
    have m2 : CMulW (ch n k : Nat) ((n : Int) - (k : Int)) := wide_mul (a := B * k + 1) (b := B) (by simpa using c1) (by omega) (by omega) (by omega) (by omega)
    have m3 : CDivW ((ch n k : Nat) * ((n : Int) - (k : Int))) ((k : Int) + 1) := wide_div (b := 20) (by omega) (by omega) (by decide) (by decide)
    refine ⟨s4', s5', ?_⟩
    show dLoop _ _ (.tup [.int (k : Nat), .int x] :: enumD (k + 1) (LI r)) _ = _
    refine loop_cons (e1 := [.dat D0, .dat (.int n), .dat (.int f), .dat (.int (ch n k : Nat)), .dat (.int (k : Nat)), .dat (.int x)]) ?_ (q_seq (q_set (z_op (z_var rfl) (z_op (z_var rfl) (z_var rfl) (f_mul m1)) f_add) rfl) (q_set (z_op (z_op (z_var rfl) (z_op (z_var rfl) (z_var rfl) f_sub) (f_mul m2)) (z_op (z_var rfl) z_c f_add) (f_div m3)) rfl)) ?_
    · show (put 4 _ _).bind _ = _
      rw [put_pl rfl p4]
      show put 5 _ _ = _
      rw [put_pl rfl p5]
      rfl
    · show dLoop _ _ _ [.dat D0, .dat (.int n), .dat (.int (f + x * (ch n k : Nat))), .dat (.int ((ch n k : Nat) * ((n : Int) - (k : Int)) / ((k : Int) + 1))), .dat (.int (k : Nat)), .dat (.int x)] = _
      rw [ch_int, ih, valFrom, hlen, show k + 1 + r.length = k + (r.length + 1) by omega, Int.add_assoc]
theorem row_at_ok {xs : List Int} {n A B : Nat} (hA : 0 < A) (hB : 8 ≤ B) (hn : n < 2 ^ B) (hx : ∀ x ∈ xs, x.natAbs < 2 ^ A) (hl : xs.length ≤ 200) (hz : A + B * 201 + 2 ≤ 1000000) : F_row_at [L xs, .int n] = .ok (.int (val xs n)) := by
  obtain ⟨s4, s5, h⟩ := row_at_loop (D0 := L xs) hA hB hn xs 0 0 .un .un pl_un pl_un hx (by omega) hz
  rw [Int.zero_add, ch_zero] at h
  exact p_rt (q_seq (q_asg (z_tup (z_cons z_c (z_cons z_c z_nil)) (by decide)) rfl) (q_seq (q_for (z_enumL (z_cons (z_var rfl) z_nil)) h) (q_ret (z_var rfl))))
/-! ### what is a whole number, a row -/
theorem whole_ok (i : Int) : F_is_whole [.int i] = .ok (.bl true) := rfl
theorem f_ge1 {i j : Int} (h : j ≤ i) : fGe (.int i) (.int j) = some (.bl true) := by rw [f_ge, decide_eq_true h]
theorem between_ok {n : Int} (h : 0 ≤ n) : F_is_between [.int n, .int 0, .non] = .ok (.bl true) :=
  p_rt (q_seq (q_if (z_notT (z_tst (z_call (z_cons (z_var rfl) z_nil) (whole_ok n)))) rfl) (q_ret (z_and1 (z_or0 (z_op (z_var rfl) z_c rfl) (z_op (z_var rfl) (z_var rfl) (f_ge1 h))) (z_or1 (z_op (z_var rfl) z_c rfl)))))
theorem check_number_ok {n : Int} (h : 0 ≤ n) : F_check_number [.int n, .int 0, .non] = .ok .non :=
  p_nx (q_if (z_notT (z_tst (z_call (z_cons (z_var rfl) (z_cons (z_var rfl) (z_cons (z_var rfl) z_nil))) (between_ok h)))) rfl)
theorem odd_none (D0 : D) (tl : Ev) : ∀ xs : List Int, lcLoop (gNm 1) (dNotT (dTst (dCall F_is_whole (dCons (dVar 1) dNil)))) (dVar 1) [1] (LI xs) [] (.dat D0 :: .un :: tl) = some ([], .dat D0 :: .un :: tl)
  | [] => lc_nil
  | x :: r => lc_skip (e1 := .dat D0 :: .dat (.int x) :: tl) rfl (z_notT (z_tst (z_call (z_cons (z_var rfl) z_nil) (whole_ok x)))) rfl (odd_none D0 tl r)
theorem cut_last (xs : List Int) : DL.cutD (LI xs) (some (-1)) none = LI (xs.drop (xs.length - 1)) := by
  unfold DL.cutD
  have h1 : HT.sIx (LI xs).length 0 (some (-1)) = xs.length - 1 := by
    have q : HT.sIx (LI xs).length 0 (some (-1)) = ((-1 : Int) + ((LI xs).length : Int)).toNat := by
      unfold HT.sIx
      exact if_pos (by decide)
    rw [q, List.length_map]
    omega
  rw [h1, show HT.sIx (LI xs).length (LI xs).length none = (LI xs).length from rfl, List.length_map, ← List.map_drop]
  exact List.take_of_length_le (by rw [List.length_map, List.length_drop]; omega)
theorem cut_to (xs : List Int) {k : Nat} (h : k ≤ xs.length) : DL.cutD (LI xs) none (some (k : Int)) = LI (xs.take k) := by
  unfold DL.cutD
  rw [show HT.sIx (LI xs).length 0 none = 0 from rfl, HT.sIx_nat, List.length_map, Nat.min_eq_left h, List.drop_zero, Nat.sub_zero, ← List.map_take]
theorem cut_from (xs : List Int) {k : Nat} (h : k ≤ xs.length) : DL.cutD (LI xs) (some (k : Int)) none = LI (xs.drop k) := by
  unfold DL.cutD
  rw [HT.sIx_nat, show HT.sIx (LI xs).length (LI xs).length none = (LI xs).length from rfl, List.length_map, Nat.min_eq_left h, ← List.map_drop]
  exact List.take_of_length_le (by rw [List.length_map, List.length_drop]; exact Nat.le_refl _)
theorem z_odd {D0 : D} {tl : Ev} {xs : List Int} (h : D0 = L xs) : dOp fNe (dOfN (dLc (dItems (dVar 0)) (gNm 1) (dNotT (dTst (dCall F_is_whole (dCons (dVar 1) dNil)))) (dVar 1) [1])) (dOfN (dLstE dNil)) (.dat D0 :: .un :: tl) = .ok (.bl false) (.dat D0 :: .un :: tl) := by
  subst h
  exact z_op (z_ofN (z_lc (e2 := .dat (L xs) :: .un :: tl) (z_items (z_var rfl)) rfl (odd_none (L xs) tl xs) rfl)) (z_ofN (z_lst z_nil (by decide))) (f_neL (xs := []) (ys := []))
theorem is_binomials_ok (xs : List Int) : F_is_binomials [L xs] = .ok (.bl (!decide (xs.drop (xs.length - 1) = [0]))) := by
  refine p_rt (q_seq (q_if (z_orT (z_notT (z_tst (z_un (z_var rfl) rfl))) (ite_f rfl (z_tst (z_odd rfl)))) rfl) (q_ret (z_op (z_ofN (z_slL (z_var rfl) (z_part (z_un z_c rfl)) z_noP)) (z_ofN (z_lst (z_cons z_c z_nil) (by decide))) ?_)))
  rw [cut_last]
  exact f_neL (xs := xs.drop (xs.length - 1)) (ys := [0])
theorem check_row_ok {xs : List Int} (h : RowOk xs) : F_check_row [L xs] = .ok .non := by
  have e : (!(!decide (xs.drop (xs.length - 1) = [0]))) = false := by simp [show ¬ xs.drop (xs.length - 1) = [0] from h]
  exact p_nx (q_if (z_notT (z_tst (z_call (z_cons (z_var rfl) z_nil) (is_binomials_ok xs)))) (ite_f e q_pass))
theorem row_value_ok {xs : List Int} {n A B : Nat} (hr : RowOk xs) (hA : 0 < A) (hB : 8 ≤ B) (hn : n < 2 ^ B) (hx : ∀ x ∈ xs, x.natAbs < 2 ^ A) (hl : xs.length ≤ 200) (hz : A + B * 201 + 2 ≤ 1000000) : F_row_value [L xs, .int n] = .ok (.int (val xs n)) :=
  p_rt (q_seq (q_drop (z_call (z_cons (z_var rfl) z_nil) (check_row_ok hr))) (q_seq (q_drop (z_call (z_cons (z_var rfl) (z_cons z_c (z_cons z_c z_nil))) (check_number_ok (Int.natCast_nonneg n)))) (q_ret (z_call (z_cons (z_var rfl) (z_cons (z_var rfl) z_nil)) (row_at_ok hA hB hn hx hl hz)))))
/-! ### zeros at the end -/
theorem at_nat {xs : List Int} {i : Nat} {x : Int} (h : xs[i]? = some x) : atI (LI xs) (i : Int) = some (.int x) := by
  have hi : i < xs.length := (List.getElem?_eq_some_iff.mp h).1
  unfold atI ixN
  rw [if_pos (Int.natCast_nonneg i), if_pos (by rw [List.length_map]; omega)]
  show (LI xs)[((i : Nat) : Int).toNat]? = _
  rw [Int.toNat_natCast, List.getElem?_map, h]
  rfl
theorem ix_nat {xs : List Int} {i : Int} {n : Nat} {x : Int} (e : i = (n : Int)) (h : xs[n]? = some x) : fIx (L xs) (.int i) = some (.int x) := by
  subst e
  exact at_nat h
theorem trim_loop (xs : List Int) : ∀ (s n : Nat), s ≤ xs.length → s < n → ∃ s' : Nat, s' ≤ s ∧ trimN s (xs.take s) = xs.take s' ∧
    dWhile (dAndT (dTst (dOp fGt (dVar 1) (dC (.int 0)))) (dTst (dOp fEq (dOp fIx (dVar 0) (dOp fSub (dVar 1) (dC (.int 1)))) (dC (.int 0))))) (dSet 1 (dOp fSub (dVar 1) (dC (.int 1)))) n [.dat (L xs), .dat (.int (s : Nat))] = .nx [.dat (L xs), .dat (.int (s' : Nat))]
  | 0, n + 1, _, _ => ⟨0, Nat.le_refl _, by rw [trimN], while_end (z_andT (z_tst (z_op (z_var rfl) z_c f_gt)) rfl)⟩
  | s + 1, n + 1, h1, h2 => by
    have hs : s < xs.length := by omega
    have hg : xs[s]? = some xs[s] := List.getElem?_eq_getElem hs
    have t1 : dAndT (dTst (dOp fGt (dVar 1) (dC (.int 0)))) (dTst (dOp fEq (dOp fIx (dVar 0) (dOp fSub (dVar 1) (dC (.int 1)))) (dC (.int 0)))) [.dat (L xs), .dat (.int ((s + 1 : Nat) : Int))] = .ok (decide (xs[s] = 0)) [.dat (L xs), .dat (.int ((s + 1 : Nat) : Int))] :=
      z_andT (z_tst (z_op (z_var rfl) z_c f_gt)) (ite_t (decide_eq_true (by omega)) (z_tst (z_op (z_op (z_var rfl) (z_op (z_var rfl) z_c f_sub) (ix_nat (n := s) (by omega) hg)) z_c f_eqI)))
    have hg2 : (xs.take (s + 1))[s]? = some xs[s] := by rw [List.getElem?_take_of_lt (by omega)]; exact hg
    by_cases h0 : xs[s] = 0
    · rw [decide_eq_true h0] at t1
      obtain ⟨s', a, b, c⟩ := trim_loop xs s n (by omega) (by omega)
      refine ⟨s', by omega, ?_, while_go t1 (q_set (z_op (z_var rfl) z_c f_sub) rfl) ?_⟩
      · rw [trimN, if_pos (by rw [hg2, h0]), List.take_take, Nat.min_eq_left (by omega)]
        exact b
      · show dWhile _ _ n [.dat (L xs), .dat (.int (((s + 1 : Nat) : Int) - 1))] = _
        rw [show ((s + 1 : Nat) : Int) - 1 = (s : Nat) by omega]
        exact c
    · rw [decide_eq_false h0] at t1
      refine ⟨s + 1, Nat.le_refl _, ?_, while_end t1⟩
      rw [trimN, if_neg (by rw [hg2]; intro e; exact h0 (Option.some.inj e))]
theorem trimmed_ok {xs : List Int} (hl : xs.length ≤ 1000) : F_trimmed [L xs] = .nw (LI (trim xs)) := by
  obtain ⟨s', a, b, c⟩ := trim_loop xs xs.length 100000 (Nat.le_refl _) (by omega)
  have e : trim xs = xs.take s' := by
    unfold trim
    rw [← b, List.take_of_length_le (Nat.le_refl _)]
  rw [e, ← cut_to xs a]
  refine p_rn (q_seq (q_set (z_bi (z_cons (z_var rfl) z_nil) rfl) rfl) (q_seq (e1 := [.dat (L xs), .dat (.int (s' : Nat))]) ?_ (q_retN (z_slL (z_var rfl) z_noP (z_part (z_var rfl))))))
  show dWhile _ _ _ [.dat (L xs), .dat (.int ((LI xs).length : Nat))] = _
  rw [List.length_map]
  exact c
/-! ### differences -/
theorem LI_append (a b : List Int) : LI (a ++ b) = LI a ++ LI b := by
  show List.map D.int (a ++ b) = List.map D.int a ++ List.map D.int b
  exact List.map_append
theorem LI_snoc (a : List Int) (x : Int) : LI a ++ [D.int x] = LI (a ++ [x]) := (LI_append a [x]).symm
theorem rngD_eq (n : Nat) : rngD 0 n = (List.range' 0 n).map fun i : Nat => D.int (i : Int) := by
  unfold rngD
  rw [List.range_eq_range']
  exact List.map_congr_left fun i _ => by rw [Int.zero_add]
theorem set_same {e : Ev} {q : Nat} {s : Sl} (h : e[q]? = some s) : e.set q s = e := by
  refine List.ext_getElem? fun k => ?_
  by_cases hk : k = q
  · subst hk
    rw [List.getElem?_set_self (List.getElem?_eq_some_iff.mp h).1, h]
  · rw [List.getElem?_set_ne (Ne.symm hk)]
theorem f_len {xs : List D} : bLen [.lst xs] = some (.int xs.length) := rfl
theorem diff_loop {e : Ev} {j q : Nat} {xs : List Int} (hj : e[j]? = some (.dat (L xs))) (hq : e[q]? = some .un) (ne : j ≠ q) : ∀ (n s : Nat) (acc : List D), s + n + 1 = xs.length → acc.length + n ≤ 1000 →
    lcLoop (gNm q) dYes (dOp fSub (dOp fIx (dVar j) (dOp fAdd (dVar q) (dC (.int 1)))) (dOp fIx (dVar j) (dVar q))) [q] ((List.range' s n).map fun i : Nat => D.int (i : Int)) acc e = some (acc ++ LI ((diff1 xs).drop s), e)
  | 0, s, acc, h, _ => by
    rw [List.drop_eq_nil_of_le (by rw [diff1_length]; omega)]
    show some (acc, e) = some (acc ++ [], e)
    rw [List.append_nil]
  | n + 1, s, acc, h, ha => by
    have g0 : xs[s]? = some xs[s] := List.getElem?_eq_getElem (by omega)
    have g1 : xs[s + 1]? = some xs[s + 1] := List.getElem?_eq_getElem (by omega)
    have ql : q < e.length := (List.getElem?_eq_some_iff.mp hq).1
    have ej : (e.set q (.dat (.int (s : Nat))))[j]? = some (.dat (L xs)) := by rw [List.getElem?_set_ne (Ne.symm ne)]; exact hj
    have eq : (e.set q (.dat (.int (s : Nat))))[q]? = some (.dat (.int (s : Nat))) := List.getElem?_set_self ql
    have wp : wipeE [q] (e.set q (.dat (.int (s : Nat)))) = some e := by
      show put q .un (e.set q (.dat (.int (s : Nat)))) = _
      rw [put_pl eq pl_dat, List.set_set, set_same hq]
    have ih := diff_loop hj hq ne n (s + 1) (acc ++ [.int (xs[s + 1] - xs[s])]) (by omega) (by rw [List.length_append, List.length_singleton]; omega)
    refine lc_cons (e1 := e.set q (.dat (.int (s : Nat)))) (put_pl hq pl_un) rfl (z_op (z_op (z_var ej) (z_op (z_var eq) z_c f_add) (ix_nat (n := s + 1) (by omega) g1)) (z_op (z_var ej) (z_var eq) (ix_nat (n := s) rfl g0)) f_sub) wp (by omega) ?_
    rw [ih]
    have hd : (diff1 xs).drop s = (xs[s + 1] - xs[s]) :: (diff1 xs).drop (s + 1) := by
      have q1 := diff1_get xs s _ _ g0 g1
      have q2 := (List.getElem?_eq_some_iff.mp q1)
      rw [List.drop_eq_getElem_cons q2.1, q2.2]
    rw [hd, List.append_assoc]
    rfl
theorem z_diff {e : Ev} {j q : Nat} {xs : List Int} (hj : e[j]? = some (.dat (L xs))) (hq : e[q]? = some .un) (ne : j ≠ q) (hl : xs.length ≤ 500) :
    dOfN (dLc (dRng1 (dCons (dOp fSub (dBi bLen (dCons (dVar j) dNil)) (dC (.int 1))) dNil)) (gNm q) dYes (dOp fSub (dOp fIx (dVar j) (dOp fAdd (dVar q) (dC (.int 1)))) (dOp fIx (dVar j) (dVar q))) [q]) e = .ok (L (diff1 xs)) e := by
  have wp : wipeE [q] e = some e := by
    show put q .un e = _
    rw [put_pl hq pl_un, set_same hq]
  have bk : backE e [q] e = e := by
    show e.set q (keepD e[q]?) = e
    rw [hq]
    exact set_same hq
  refine z_ofN (z_lc (z_rng1 (z_cons (z_op (z_bi (z_cons (z_var hj) z_nil) f_len) z_c f_sub) z_nil) (by rw [List.length_map]; omega)) wp ?_ bk)
  rw [List.length_map, rngD_eq]
  cases hx : xs.length with
  | zero =>
    have e0 : xs = [] := List.length_eq_zero_iff.mp hx
    subst e0
    rfl
  | succ n =>
    rw [show (((n + 1 : Nat) : Int) - 1).toNat = n by omega]
    exact diff_loop hj hq ne n 0 [] (by omega) (by show 0 + n ≤ 1000; omega)
theorem bin_loop {D0 : D} {s1 : Sl} : ∀ (N : Nat) (xs acc : List Int) (n : Nat), xs.length = N → N < n → acc.length + N ≤ 500 →
    dWhile (dTst (dOp fNe (dVar 3) (dOfN (dLstE dNil)))) (dSeq (dAppend 2 (dOp fIx (dVar 3) (dC (.int 0)))) (dSet 3 (dOfN (dLc (dRng1 (dCons (dOp fSub (dBi bLen (dCons (dVar 3) dNil)) (dC (.int 1))) dNil)) (gNm 4) dYes (dOp fSub (dOp fIx (dVar 3) (dOp fAdd (dVar 4) (dC (.int 1)))) (dOp fIx (dVar 3) (dVar 4))) [4])))) n
      [.dat D0, s1, .own false (LI acc), .dat (L xs), .un] = .nx [.dat D0, s1, .own false (LI (acc ++ diffsN N xs)), .dat (L []), .un]
  | 0, xs, acc, n + 1, h, _, _ => by
    have e0 : xs = [] := List.length_eq_zero_iff.mp h
    subst e0
    rw [show diffsN 0 [] = [] from rfl, List.append_nil]
    exact while_end (z_tst (z_op (z_var rfl) (z_ofN (z_lst z_nil (by decide))) (f_neL (xs := []) (ys := []))))
  | N + 1, x :: r, acc, n + 1, h, h2, h3 => by
    have hr : (diff1 (x :: r)).length = N := by rw [diff1_length]; omega
    have ih := bin_loop (D0 := D0) (s1 := s1) N (diff1 (x :: r)) (acc ++ [x]) n hr (by omega) (by rw [List.length_append, List.length_singleton]; omega)
    have t : dTst (dOp fNe (dVar 3) (dOfN (dLstE dNil))) [.dat D0, s1, .own false (LI acc), .dat (L (x :: r)), .un] = .ok true [.dat D0, s1, .own false (LI acc), .dat (L (x :: r)), .un] :=
      z_tst (z_op (z_var rfl) (z_ofN (z_lst z_nil (by decide))) (f_neL (xs := x :: r) (ys := [])))
    refine while_go t (q_seq (q_append (o := false) (o' := false) rfl (z_op (z_var rfl) z_c (ix_nat (n := 0) (x := x) rfl rfl)) rfl (by rw [List.length_map]; omega) rfl) (q_set (z_diff (xs := x :: r) rfl rfl (by decide) (by omega)) rfl)) ?_
    have e1 : acc ++ diffsN (N + 1) (x :: r) = acc ++ [x] ++ diffsN N (diff1 (x :: r)) := by rw [diffsN, List.append_assoc]; rfl
    rw [e1, ← ih]
    show dWhile _ _ n [.dat D0, s1, .own false (LI acc ++ [.int x]), .dat (L (diff1 (x :: r))), .un] = _
    rw [LI_snoc]
theorem diffs_length : ∀ (N : Nat) (xs : List Int), xs.length = N → (diffsN N xs).length = N
  | 0, _, _ => rfl
  | N + 1, x :: r, h => by rw [diffsN, List.length_cons, diffs_length N _ (by rw [diff1_length]; omega)]
theorem binomial_row_ok {xs : List Int} (hl : xs.length ≤ 400) : F_binomial_row [L xs] = .nw (LI (trim (diffs xs))) := by
  have h := bin_loop (D0 := L xs) (s1 := .un) xs.length xs [] 100000 rfl (by omega) (by show 0 + xs.length ≤ 500; omega)
  have hd : (diffs xs).length = xs.length := diffs_length _ _ rfl
  refine p_rn (q_seq (q_if (z_orT (z_notT (z_tst (z_un (z_var rfl) rfl))) (ite_f rfl (z_tst (z_odd rfl)))) rfl) (q_seq (q_parNE (z_lst z_nil (by decide)) (z_ofN (z_listOf (z_cons (z_var rfl) z_nil))) rfl) (q_seq h (q_retN (z_callN (z_cons (z_fix rfl rfl) z_nil) ?_)))))
  exact trimmed_ok (xs := diffs xs) (by omega)
/-! ### the law's own differences -/
theorem dif_loop {D0 : D} : ∀ (N : Nat) (t : Nat) (xs acc : List Int) (s3 : Sl), xs.length = N → acc.length + N ≤ 500 → Pl s3 → ∃ s3',
    dLoop (gNm 3) (dSeq (dAppend 1 (dOp fIx (dVar 2) (dC (.int 0)))) (dSet 2 (dOfN (dLc (dRng1 (dCons (dOp fSub (dBi bLen (dCons (dVar 2) dNil)) (dC (.int 1))) dNil)) (gNm 4) dYes (dOp fSub (dOp fIx (dVar 2) (dOp fAdd (dVar 4) (dC (.int 1)))) (dOp fIx (dVar 2) (dVar 4))) [4])))) ((List.range' t N).map fun i : Nat => D.int (i : Int))
      [.dat D0, .own false (LI acc), .dat (L xs), s3, .un] = .nx [.dat D0, .own false (LI (acc ++ diffsN N xs)), .dat (L []), s3', .un]
  | 0, t, xs, acc, s3, h, _, _ => by
    have e0 : xs = [] := List.length_eq_zero_iff.mp h
    subst e0
    rw [show diffsN 0 [] = [] from rfl, List.append_nil]
    exact ⟨s3, rfl⟩
  | N + 1, t, x :: r, acc, s3, h, h3, p3 => by
    have hr : (diff1 (x :: r)).length = N := by rw [diff1_length]; omega
    obtain ⟨s3', ih⟩ := dif_loop (D0 := D0) N (t + 1) (diff1 (x :: r)) (acc ++ [x]) (.dat (.int (t : Nat))) hr (by rw [List.length_append, List.length_singleton]; omega) pl_dat
    refine ⟨s3', ?_⟩
    refine loop_cons (e1 := [.dat D0, .own false (LI acc), .dat (L (x :: r)), .dat (.int (t : Nat)), .un]) (put_pl rfl p3) (q_seq (q_append (o := false) (o' := false) rfl (z_op (z_var rfl) z_c (ix_nat (n := 0) (x := x) rfl rfl)) rfl (by rw [List.length_map]; omega) rfl) (q_set (z_diff (xs := x :: r) rfl rfl (by decide) (by omega)) rfl)) ?_
    have e1 : acc ++ diffsN (N + 1) (x :: r) = acc ++ [x] ++ diffsN N (diff1 (x :: r)) := by rw [diffsN, List.append_assoc]; rfl
    rw [e1, ← ih]
    show dLoop _ _ _ [.dat D0, .own false (LI acc ++ [.int x]), .dat (L (diff1 (x :: r))), .dat (.int (t : Nat)), .un] = _
    rw [LI_snoc]
theorem pop_loop {D0 : D} {s2 s3 s4 : Sl} : ∀ (N : Nat) (ys : List Int) (n : Nat), ys.length = N → N < n →
    dWhile (dAndT (dTst (dOp fNe (dSee 1) (dOfN (dLstE dNil)))) (dTst (dOp fEq (dOp fIxF (dSee 1) (dOp fSub (dBi bLen (dCons (dSee 1) dNil)) (dC (.int 1)))) (dC (.int 0))))) (dPop 1) n [.dat D0, .own false (LI ys), s2, s3, s4] = .nx [.dat D0, .own false (LI (trimN N ys)), s2, s3, s4]
  | 0, ys, n + 1, h, _ => by
    have e0 : ys = [] := List.length_eq_zero_iff.mp h
    subst e0
    exact while_end (z_andT (z_tst (z_op (z_see rfl) (z_ofN (z_lst z_nil (by decide))) (f_neL (xs := []) (ys := [])))) rfl)
  | N + 1, ys, n + 1, h, h2 => by
    have hg : ys[N]? = some ys[N] := List.getElem?_eq_getElem (by omega)
    have hne : (!decide (ys = [])) = true := by
      cases ys with
      | nil => simp at h
      | cons _ _ => rfl
    have hf : fIxF (L ys) (.int (((LI ys).length : Nat) - 1)) = some (.int ys[N]) := by
      unfold fIxF
      rw [ix_nat (n := N) (by rw [List.length_map]; omega) hg]
      rfl
    have t1 : dAndT (dTst (dOp fNe (dSee 1) (dOfN (dLstE dNil)))) (dTst (dOp fEq (dOp fIxF (dSee 1) (dOp fSub (dBi bLen (dCons (dSee 1) dNil)) (dC (.int 1)))) (dC (.int 0)))) [.dat D0, .own false (LI ys), s2, s3, s4] = .ok (decide (ys[N] = 0)) [.dat D0, .own false (LI ys), s2, s3, s4] :=
      z_andT (z_tst (z_op (z_see rfl) (z_ofN (z_lst z_nil (by decide))) (f_neL (xs := ys) (ys := [])))) (ite_t hne (z_tst (z_op (z_op (z_see rfl) (z_op (z_bi (z_cons (z_see rfl) z_nil) f_len) z_c f_sub) hf) z_c f_eqI)))
    by_cases h0 : ys[N] = 0
    · rw [decide_eq_true h0] at t1
      have ih := pop_loop (D0 := D0) (s2 := s2) (s3 := s3) (s4 := s4) N (ys.take N) n (by rw [List.length_take]; omega) (by omega)
      rw [trimN, if_pos (by rw [hg, h0]), ← ih]
      refine while_go t1 (q_pop (o := false) rfl (by rw [List.length_map]; omega) rfl) ?_
      have e : (LI ys).dropLast = LI (ys.take N) := by
        rw [List.dropLast_eq_take, List.length_map, h, Nat.add_sub_cancel, ← List.map_take]
      show dWhile _ _ n [.dat D0, .own false (LI ys).dropLast, s2, s3, s4] = _
      rw [e]
    · rw [decide_eq_false h0] at t1
      rw [trimN, if_neg (by rw [hg]; intro e; exact h0 (Option.some.inj e))]
      exact while_end t1
theorem differences_ok {xs : List Int} (hl : xs.length ≤ 400) : F__law_differences [L xs] = .nw (LI (trim (diffs xs))) := by
  obtain ⟨s3, h⟩ := dif_loop (D0 := L xs) xs.length 0 xs [] .un rfl (by show 0 + xs.length ≤ 500; omega) pl_un
  have hd : (diffs xs).length = xs.length := diffs_length _ _ rfl
  have h2 := pop_loop (D0 := L xs) (s2 := .dat (L [])) (s3 := s3) (s4 := .un) (diffs xs).length (diffs xs) 100000 rfl (by omega)
  rw [List.nil_append] at h
  refine p_rn (q_seq (q_parNE (z_lst z_nil (by decide)) (z_ofN (z_listOf (z_cons (z_var rfl) z_nil))) rfl) (q_seq (q_for (z_rng1 (z_cons (z_bi (z_cons (z_var rfl) z_nil) f_len) z_nil) (by rw [List.length_map]; omega)) ?_) (q_seq h2 (q_give rfl rfl))))
  rw [List.length_map, Int.toNat_natCast, rngD_eq]
  exact h
/-! ### the product -/
theorem range_cons (s n : Nat) : (List.range' s (n + 1)).map (fun i : Nat => D.int (i : Int)) = .int (s : Nat) :: (List.range' (s + 1) n).map fun i : Nat => D.int (i : Int) := rfl
def uptoFrom (h : Nat → Int) : Nat → Nat → List Int
  | _, 0 => []
  | s, n + 1 => h s :: uptoFrom h (s + 1) n
theorem upto_from : ∀ (n s : Nat) (h : Nat → Int), uptoFrom h s n = upto n fun i => h (s + i)
  | 0, _, _ => rfl
  | n + 1, s, h => by
    rw [uptoFrom, upto, upto_from n (s + 1) h]
    congr 1
    congr 1
    funext i
    rw [show s + 1 + i = s + (i + 1) by omega]
end T66
set_option Elab.async false
set_option linter.all false
set_option maxRecDepth 100000
set_option maxHeartbeats 400000
namespace T66
open PySem PySem.Spec PyProof.Rows L2 DL MN
theorem valFrom_le {n A B : Nat} (hn : n < 2 ^ B) : ∀ (r : List Int) (k : Nat), (∀ x ∈ r, x.natAbs < 2 ^ A) → k + r.length ≤ 200 → (valFrom n k r).natAbs ≤ r.length * (2 ^ A * 2 ^ (B * 200 + 1))
  | [], _, _, _ => by rw [valFrom]; simp
  | x :: r, k, hx, hk => by
    rw [List.length_cons] at hk
    have ih := valFrom_le hn r (k + 1) (fun y hy => hx y (List.mem_cons_of_mem _ hy)) (by omega)
    have c1 : ch n k < 2 ^ (B * k + 1) := ch_lt hn
    have c2 : 2 ^ (B * k + 1) ≤ 2 ^ (B * 200 + 1) := Nat.pow_le_pow_right (by decide) (by have := Nat.mul_le_mul (Nat.le_refl B) (show k ≤ 200 by omega); omega)
    have m : (x * (ch n k : Nat)).natAbs ≤ 2 ^ A * 2 ^ (B * 200 + 1) := by
      rw [Int.natAbs_mul, Int.natAbs_natCast]
      exact Nat.mul_le_mul (Nat.le_of_lt (hx x List.mem_cons_self)) (by omega)
    rw [valFrom, List.length_cons, Nat.add_mul, Nat.one_mul]
    have t := Int.natAbs_add_le (x * (ch n k : Nat)) (valFrom n (k + 1) r)
    omega
theorem val_lt {xs : List Int} {n A B : Nat} (hn : n < 2 ^ B) (hx : ∀ x ∈ xs, x.natAbs < 2 ^ A) (hl : xs.length ≤ 200) : (val xs n).natAbs < 2 ^ (A + B * 200 + 10) := by
  have h := valFrom_le hn xs 0 hx (by omega)
  have h2 : xs.length * (2 ^ A * 2 ^ (B * 200 + 1)) ≤ 200 * (2 ^ A * 2 ^ (B * 200 + 1)) := Nat.mul_le_mul hl (Nat.le_refl _)
  rw [← Nat.pow_add] at h h2
  have h3 : (2 : Nat) ^ (A + B * 200 + 10) = 512 * 2 ^ (A + (B * 200 + 1)) := by
    rw [show A + B * 200 + 10 = 9 + (A + (B * 200 + 1)) by omega, Nat.pow_add]
  have h4 : 0 < 2 ^ (A + (B * 200 + 1)) := Nat.pow_pos (by decide)
  unfold val
  omega
theorem prod_loop {cs ds : List Int} {A : Nat} (hA : 0 < A) (hA2 : A ≤ 5000) (hc : ∀ x ∈ cs, x.natAbs < 2 ^ A) (hd : ∀ x ∈ ds, x.natAbs < 2 ^ A) (lc : cs.length ≤ 100) (ld : ds.length ≤ 100) (n : Nat) : ∀ (s : Nat) (acc : List D), s + n ≤ 200 → acc.length + n ≤ 1000 →
    lcLoop (gNm 2) dYes (dOp fMul (dCall F_row_at (dCons (dVar 0) (dCons (dVar 2) dNil))) (dCall F_row_at (dCons (dVar 1) (dCons (dVar 2) dNil)))) [2] ((List.range' s n).map fun i : Nat => D.int (i : Int)) acc [.dat (L cs), .dat (L ds), .un] = some (acc ++ LI (uptoFrom (fun i => val cs i * val ds i) s n), [.dat (L cs), .dat (L ds), .un]) := by
  have sm : ∀ s : Nat, s ≤ 200 → s < 2 ^ 8 := fun s h => Nat.lt_of_le_of_lt h (by decide)
  have rw1 : ∀ (xs : List Int) (s : Nat), s ≤ 200 → (∀ x ∈ xs, x.natAbs < 2 ^ A) → xs.length ≤ 100 → F_row_at [L xs, .int s] = .ok (.int (val xs s)) := fun xs s hs hx hl => row_at_ok hA (B := 8) (by decide) (sm s hs) hx (by omega) (by omega)
  have vb : ∀ (xs : List Int) (s : Nat), s ≤ 200 → (∀ x ∈ xs, x.natAbs < 2 ^ A) → xs.length ≤ 100 → (val xs s).natAbs < 2 ^ (A + 1610) := fun xs s hs hx hl => by
    have h := val_lt (A := A) (B := 8) (sm s hs) hx (by omega)
    rw [show A + 8 * 200 + 10 = A + 1610 by omega] at h
    exact h
  have sz : ∀ s : Nat, s ≤ 200 → CMulW (val cs s) (val ds s) := fun s hs => wide_mul (a := A + 1610) (b := A + 1610) (vb cs s hs hc lc) (vb ds s hs hd ld) (by omega) (by omega) (by omega)
  have body : ∀ s : Nat, s ≤ 200 → dOp fMul (dCall F_row_at (dCons (dVar 0) (dCons (dVar 2) dNil))) (dCall F_row_at (dCons (dVar 1) (dCons (dVar 2) dNil))) [.dat (L cs), .dat (L ds), .dat (.int (s : Nat))] = .ok (.int (val cs s * val ds s)) [.dat (L cs), .dat (L ds), .dat (.int (s : Nat))] := fun s hs =>
    z_op (z_call (z_cons (z_var rfl) (z_cons (z_var rfl) z_nil)) (rw1 cs s hs hc lc)) (z_call (z_cons (z_var rfl) (z_cons (z_var rfl) z_nil)) (rw1 ds s hs hd ld)) (f_mul (sz s hs))
  induction n with
  | zero =>
    intro s acc _ _
    show some (acc, _) = some (acc ++ [], _)
    rw [List.append_nil]
  | succ n ih =>
    intro s acc h ha
    have ih := ih (s + 1) (acc ++ [.int (val cs s * val ds s)]) (by omega) (by rw [List.length_append, List.length_singleton]; omega)
    rw [range_cons]
    refine lc_cons (e1 := [.dat (L cs), .dat (L ds), .dat (.int (s : Nat))]) (e4 := [.dat (L cs), .dat (L ds), .un]) rfl rfl (body s (by omega)) rfl (by omega) ?_
    rw [ih, uptoFrom, List.append_assoc]
    rfl
theorem row_product_ok {cs ds : List Int} {A : Nat} (hA : 0 < A) (hA2 : A ≤ 5000) (hc : ∀ x ∈ cs, x.natAbs < 2 ^ A) (hd : ∀ x ∈ ds, x.natAbs < 2 ^ A) (lc : cs.length ≤ 100) (ld : ds.length ≤ 100) (oc : RowOk cs) (od : RowOk ds) :
    F_row_product [L cs, L ds] = .nw (LI (trim (coefs (cs.length + ds.length) fun n => val cs n * val ds n))) := by
  have h := prod_loop hA hA2 hc hd lc ld (cs.length + ds.length) 0 [] (by omega) (by show 0 + _ ≤ 1000; omega)
  rw [List.nil_append, upto_from] at h
  have e : (fun i => (fun i => val cs i * val ds i) (0 + i)) = fun n => val cs n * val ds n := by
    funext i
    show val cs (0 + i) * val ds (0 + i) = _
    rw [Nat.zero_add]
  rw [e] at h
  have hb := binomial_row_ok (xs := upto (cs.length + ds.length) fun n => val cs n * val ds n) (by rw [upto_length]; omega)
  rw [diffs_upto] at hb
  have e2 : (((LI cs).length : Nat) : Int) + (((LI ds).length : Nat) : Int) = ((cs.length + ds.length : Nat) : Int) := by rw [List.length_map, List.length_map]; omega
  have h2 : lcLoop (gNm 2) dYes (dOp fMul (dCall F_row_at (dCons (dVar 0) (dCons (dVar 2) dNil))) (dCall F_row_at (dCons (dVar 1) (dCons (dVar 2) dNil)))) [2] (rngD 0 ((((LI cs).length : Nat) : Int) + (((LI ds).length : Nat) : Int)).toNat) [] [.dat (L cs), .dat (L ds), .un] = some (LI (upto (cs.length + ds.length) fun n => val cs n * val ds n), [.dat (L cs), .dat (L ds), .un]) := by
    rw [e2, Int.toNat_natCast, rngD_eq]
    exact h
  exact p_rn (q_seq (q_drop (z_call (z_cons (z_var rfl) z_nil) (check_row_ok oc))) (q_seq (q_drop (z_call (z_cons (z_var rfl) z_nil) (check_row_ok od))) (q_retN (z_callN (z_cons (z_ofN (z_lc (e2 := [.dat (L cs), .dat (L ds), .un]) (z_rng1 (z_cons (z_op (z_bi (z_cons (z_var rfl) z_nil) f_len) (z_bi (z_cons (z_var rfl) z_nil) f_len) f_add) z_nil) (by rw [e2]; omega)) rfl h2 rfl)) z_nil) hb))))
/-! ### the law's own values -/
theorem choose_loop {D1 : D} {n B : Nat} (hB : 8 ≤ B) (hB2 : B ≤ 2000) (hn : n < 2 ^ B) : ∀ (m s : Nat) (s3 : Sl), s + m ≤ 200 → Pl s3 → ∃ s3',
    dLoop (gNm 3) (dSet 2 (dOp fDiv (dOp fMul (dVar 2) (dOp fSub (dVar 0) (dVar 3))) (dOp fAdd (dVar 3) (dC (.int 1))))) ((List.range' s m).map fun i : Nat => D.int (i : Int)) [.dat (.int n), .dat D1, .dat (.int (ch n s : Nat)), s3] = .nx [.dat (.int n), .dat D1, .dat (.int (ch n (s + m) : Nat)), s3']
  | 0, s, s3, _, _ => ⟨s3, rfl⟩
  | m + 1, s, s3, h, p3 => by
    obtain ⟨s3', ih⟩ := choose_loop (D1 := D1) hB hB2 hn m (s + 1) (.dat (.int (s : Nat))) (by omega) pl_dat
    have c1 : ch n s < 2 ^ (B * s + 1) := ch_lt hn
    have kB : B * s ≤ 2000 * 200 := Nat.mul_le_mul hB2 (by omega)
    have k2 : (2 : Nat) ^ 8 ≤ 2 ^ B := Nat.pow_le_pow_right (by decide) hB
    have m2 : CMulW (ch n s : Nat) ((n : Int) - (s : Int)) := wide_mul (a := B * s + 1) (b := B) (by simpa using c1) (by omega) (by omega) (by omega) (by omega)
    have m3 : CDivW ((ch n s : Nat) * ((n : Int) - (s : Int))) ((s : Int) + 1) := wide_div (b := 20) (by omega) (by omega) (by decide) (by decide)
    refine ⟨s3', loop_cons (e1 := [.dat (.int n), .dat D1, .dat (.int (ch n s : Nat)), .dat (.int (s : Nat))]) (put_pl rfl p3) (q_set (z_op (z_op (z_var rfl) (z_op (z_var rfl) (z_var rfl) f_sub) (f_mul m2)) (z_op (z_var rfl) z_c f_add) (f_div m3)) rfl) ?_⟩
    show dLoop _ _ _ [.dat (.int n), .dat D1, .dat (.int ((ch n s : Nat) * ((n : Int) - (s : Int)) / ((s : Int) + 1))), .dat (.int (s : Nat))] = _
    rw [ch_int]
    rw [show s + (m + 1) = s + 1 + m by omega]
    exact ih
theorem choose_ok {n k B : Nat} (hB : 8 ≤ B) (hB2 : B ≤ 2000) (hn : n < 2 ^ B) (hk : k ≤ 200) : F__law_choose [.int n, .int k] = .ok (.int (ch n k : Nat)) := by
  obtain ⟨s3, h⟩ := choose_loop (D1 := .int k) hB hB2 hn k 0 .un (by omega) pl_un
  rw [ch_zero, Nat.zero_add] at h
  have h' : dLoop (gNm 3) (dSet 2 (dOp fDiv (dOp fMul (dVar 2) (dOp fSub (dVar 0) (dVar 3))) (dOp fAdd (dVar 3) (dC (.int 1))))) (rngD 0 ((k : Nat) : Int).toNat) [.dat (.int n), .dat (.int k), .dat (.int 1), .un] = .nx [.dat (.int n), .dat (.int k), .dat (.int (ch n k : Nat)), s3] := by
    rw [Int.toNat_natCast, rngD_eq]
    exact h
  exact p_rt (q_seq (q_set z_c rfl) (q_seq (q_for (z_rng1 (z_cons (z_var rfl) z_nil) (by omega)) h') (q_ret (z_var rfl))))
def termsFrom (n : Nat) : Nat → List Int → List Int
  | _, [] => []
  | k, x :: r => x * (ch n k : Nat) :: termsFrom n (k + 1) r
theorem terms_sum (n : Nat) : ∀ (r : List Int) (k : Nat), (termsFrom n k r).sum = valFrom n k r
  | [], _ => rfl
  | x :: r, k => by rw [termsFrom, List.sum_cons, terms_sum n r (k + 1), valFrom]
theorem value_loop {D0 : D} {n A B : Nat} (hA : 0 < A) (hA2 : A ≤ 100000) (hB : 8 ≤ B) (hB2 : B ≤ 2000) (hn : n < 2 ^ B) : ∀ (r : List Int) (k : Nat) (acc : List D), (∀ x ∈ r, x.natAbs < 2 ^ A) → k + r.length ≤ 200 → acc.length + r.length ≤ 1000 →
    lcLoop (gTwo (gNm 2) (gNm 3)) dYes (dOp fMul (dVar 3) (dCall F__law_choose (dCons (dVar 1) (dCons (dVar 2) dNil)))) [2, 3] (enumD k (LI r)) acc [.dat D0, .dat (.int n), .un, .un] = some (acc ++ LI (termsFrom n k r), [.dat D0, .dat (.int n), .un, .un])
  | [], k, acc, _, _, _ => by
    show some (acc, _) = some (acc ++ [], _)
    rw [List.append_nil]
  | x :: r, k, acc, hx, hk, ha => by
    rw [List.length_cons] at hk ha
    have ih := value_loop (D0 := D0) hA hA2 hB hB2 hn r (k + 1) (acc ++ [.int (x * (ch n k : Nat))]) (fun y hy => hx y (List.mem_cons_of_mem _ hy)) (by omega) (by rw [List.length_append, List.length_singleton]; omega)
    have c1 : ch n k < 2 ^ (B * k + 1) := ch_lt hn
    have kB : B * k ≤ 2000 * 200 := Nat.mul_le_mul hB2 (by omega)
    have m : CMulW x (ch n k : Nat) := wide_mul (a := A) (b := B * k + 1) (hx x List.mem_cons_self) (by simpa using c1) hA (by omega) (by omega)
    show lcLoop _ _ _ _ (.tup [.int (k : Nat), .int x] :: enumD (k + 1) (LI r)) _ _ = _
    refine lc_cons (e1 := [.dat D0, .dat (.int n), .dat (.int (k : Nat)), .dat (.int x)]) (e4 := [.dat D0, .dat (.int n), .un, .un]) rfl rfl (z_op (z_var rfl) (z_call (z_cons (z_var rfl) (z_cons (z_var rfl) z_nil)) (choose_ok hB hB2 hn (by omega))) (f_mul m)) rfl (by omega) ?_
    refine ih.trans ?_
    rw [termsFrom, List.append_assoc]
    rfl
theorem value_ok {xs : List Int} {n A B : Nat} (hA : 0 < A) (hA2 : A ≤ 100000) (hB : 8 ≤ B) (hB2 : B ≤ 2000) (hn : n < 2 ^ B) (hx : ∀ x ∈ xs, x.natAbs < 2 ^ A) (hl : xs.length ≤ 200) : F__law_value [L xs, .int n] = .ok (.int (val xs n)) := by
  have h := value_loop (D0 := L xs) hA hA2 hB hB2 hn xs 0 [] hx (by omega) (by show 0 + _ ≤ 1000; omega)
  rw [List.nil_append] at h
  have e : bSum [.lst (LI (termsFrom n 0 xs))] = some (.int (val xs n)) := by
    show (intsOf ((termsFrom n 0 xs).map D.int)).map _ = _
    rw [intsOf_map]
    show some (D.int (termsFrom n 0 xs).sum) = _
    rw [terms_sum]
    rfl
  exact p_rt (q_ret (z_bi (z_cons (z_ofN (z_lc (e2 := [.dat (L xs), .dat (.int n), .un, .un]) (z_enumL (z_cons (z_var rfl) z_nil)) rfl h rfl)) z_nil) e))
end T66
set_option Elab.async false
set_option linter.all false
set_option maxRecDepth 100000
set_option maxHeartbeats 400000
namespace T66
open PySem PySem.Spec PyProof.Rows L2 DL MN
/-! ### draws -/
theorem modb (x : Int) {m : Int} (h : 0 < m) : 0 ≤ x % m ∧ x % m < m := ⟨Int.emod_nonneg x (by omega), Int.emod_lt_of_pos x h⟩
theorem hash_ok {s i : Int} (hs : 0 ≤ s ∧ s < 2 ^ 31) (hi : 0 ≤ i ∧ i < 2 ^ 40) : ∃ r, F__law_hash [.int s, .int i] = .ok (.int r) ∧ 0 ≤ r ∧ r < 2147483647 := by
  have b1 : CMulW s 1140671 := wide_mul (a := 31) (b := 30) (by omega) (by decide) (by decide) (by decide) (by decide)
  have b2 : CMulW 27644437 i := wide_mul (a := 31) (b := 40) (by decide) (by omega) (by decide) (by decide) (by decide)
  have b3 : CMulW (27644437 * i) i := wide_mul (a := 80) (b := 40) (by omega) (by omega) (by decide) (by decide) (by decide)
  have b4 : CMulW 131 i := wide_mul (a := 31) (b := 40) (by decide) (by omega) (by decide) (by decide) (by decide)
  have b6 : CMulW 62089 i := wide_mul (a := 31) (b := 40) (by decide) (by omega) (by decide) (by decide) (by decide)
  have m1 := modb (s * 1140671 + 27644437 * i * i + 131 * i + 19) (m := 2147483629) (by decide)
  generalize e1 : (s * 1140671 + 27644437 * i * i + 131 * i + 19) % 2147483629 = m at m1
  have b5 : CMulW m m := wide_mul (a := 31) (b := 31) (by omega) (by omega) (by decide) (by decide) (by decide)
  have m2 := modb (m * m + 62089 * i + 32416187) (m := 2147483587) (by decide)
  generalize e2 : (m * m + 62089 * i + 32416187) % 2147483587 = k at m2
  have b7 : CMulW k 48271 := wide_mul (a := 31) (b := 31) (by omega) (by decide) (by decide) (by decide) (by decide)
  have f1 : fMod (.int (s * 1140671 + 27644437 * i * i + 131 * i + 19)) (.int 2147483629) = some (.int m) := by rw [f_mod (by decide), e1]
  have f2 : fMod (.int (m * m + 62089 * i + 32416187)) (.int 2147483587) = some (.int k) := by rw [f_mod (by decide), e2]
  have m3 := modb (k * 48271) (m := 2147483647) (by decide)
  exact ⟨_, p_rt (q_seq (q_set (z_op (z_bi (z_cons (z_op (z_op (z_op (z_op (z_var rfl) z_c (f_mul b1)) (z_op (z_op z_c (z_var rfl) (f_mul b2)) (z_var rfl) (f_mul b3)) f_add) (z_op z_c (z_var rfl) (f_mul b4)) f_add) z_c f_add) z_nil) rfl) z_c f1) rfl)
    (q_seq (q_set (z_op (z_bi (z_cons (z_op (z_op (z_op (z_var rfl) (z_var rfl) (f_mul b5)) (z_op z_c (z_var rfl) (f_mul b6)) f_add) z_c f_add) z_nil) rfl) z_c f2) rfl)
      (q_ret (z_op (z_bi (z_cons (z_op (z_var rfl) z_c (f_mul b7)) z_nil) rfl) z_c (f_mod (by decide)))))), m3.1, m3.2⟩
/-- the generator's three numbers, the third at most n -/
def GenOk (n : Nat) (g : List D) : Prop := ∃ a s i : Int, g = [.int a, .int s, .int i] ∧ 0 ≤ a ∧ 0 ≤ s ∧ s < 2 ^ 31 ∧ 0 ≤ i ∧ i ≤ n
theorem GenOk.mono {n m : Nat} {g : List D} (h : GenOk n g) (k : n ≤ m) : GenOk m g := by
  obtain ⟨a, s, i, e, h1, h2, h3, h4, h5⟩ := h
  exact ⟨a, s, i, e, h1, h2, h3, h4, by omega⟩
theorem ran_loop {a s b : Int} (hs : 0 ≤ s ∧ s < 2 ^ 31) : ∀ (m t k : Nat) (i d : Int) (s3 : Sl), Pl s3 → 0 ≤ i → i + m < 2 ^ 40 → 0 ≤ d → d < 2 ^ (32 * k) → k + m ≤ 300 → ∃ d' s3', 0 ≤ d' ∧
    dLoop (gNm 3) (dSeq (dPutAt 0 (dC (.int 2)) (dOp fAdd (dOp fIxF (dSee 0) (dC (.int 2))) (dC (.int 1)))) (dSet 2 (dOp fAdd (dOp fMul (dVar 2) (dC (.int 2147483587))) (dCall F__law_hash (dCons (dOp fIxF (dSee 0) (dC (.int 1))) (dCons (dOp fIxF (dSee 0) (dC (.int 2))) dNil)))))) ((List.range' t m).map fun i : Nat => D.int (i : Int))
      [.own true [.int a, .int s, .int i], .dat (.int b), .dat (.int d), s3] = .nx [.own true [.int a, .int s, .int (i + m)], .dat (.int b), .dat (.int d'), s3']
  | 0, t, k, i, d, s3, _, _, _, hd, _, _ => ⟨d, s3, hd, by rw [show i + ((0 : Nat) : Int) = i by omega]; rfl⟩
  | m + 1, t, k, i, d, s3, p3, hi, hm, hd, hk, hz => by
    obtain ⟨r, hr, r0, r1⟩ := hash_ok hs (i := i + 1) ⟨by omega, by omega⟩
    have pw : (2 : Int) ^ (32 * (k + 1)) = 2 ^ (32 * k) * 4294967296 := by rw [show 32 * (k + 1) = 32 * k + 32 by omega, Int.pow_add]; rfl
    have hd2 : d * 2147483587 + r < 2 ^ (32 * (k + 1)) := by rw [pw]; omega
    obtain ⟨d', s3', h0, ih⟩ := ran_loop (a := a) (b := b) hs m (t + 1) (k + 1) (i + 1) (d * 2147483587 + r) (.dat (.int (t : Nat))) pl_dat (by omega) (by omega) (by omega) hd2 (by omega)
    have mm : CMulW d 2147483587 := by
      refine wide_mul (a := 32 * k + 1) (b := 32) ?_ (by decide) (by omega) (by decide) (by omega)
      have e : ((2 ^ (32 * k) : Nat) : Int) = (2 : Int) ^ (32 * k) := by simp
      have h2 : (2 : Nat) ^ (32 * k) < 2 ^ (32 * k + 1) := Nat.pow_lt_pow_right (by decide) (by omega)
      omega
    refine ⟨d', s3', h0, ?_⟩
    rw [range_cons]
    refine loop_cons (e1 := [.own true [.int a, .int s, .int i], .dat (.int b), .dat (.int d), .dat (.int (t : Nat))]) (e2 := [.own true [.int a, .int s, .int (i + 1)], .dat (.int b), .dat (.int (d * 2147483587 + r)), .dat (.int (t : Nat))]) (put_pl rfl p3)
      (q_seq (e1 := [.own true [.int a, .int s, .int (i + 1)], .dat (.int b), .dat (.int d), .dat (.int (t : Nat))]) (q_putAt (o := true) (o' := true) (n := 2) (z_op (z_op (z_see rfl) z_c rfl) z_c f_add) rfl z_c rfl rfl rfl)
        (q_set (z_op (z_op (z_var rfl) z_c (f_mul mm)) (z_call (z_cons (z_op (z_see rfl) z_c rfl) (z_cons (z_op (z_see rfl) z_c rfl) z_nil)) hr) f_add) rfl)) ?_
    rw [ih, show i + 1 + (m : Int) = i + ((m + 1 : Nat) : Int) by omega]
theorem random_ok {g : List D} {n : Nat} {b : Int} (hg : GenOk n g) (hn : n < 2 ^ 38) (hb : 0 < b) (hb2 : b < 2 ^ 1200) : ∃ r g', F__law_random g [.int b] = .ok (.int r) g' ∧ 0 ≤ r ∧ r < b ∧ GenOk (n + 50) g' := by
  obtain ⟨a, s, i, rfl, ha, hs0, hs1, hi0, hi1⟩ := hg
  have m := modb a hb
  have lb : b.natAbs < 2 ^ 1200 := by
    have e : ((2 ^ 1200 : Nat) : Int) = (2 : Int) ^ 1200 := by simp
    omega
  have cd : CDivW a b := wide_div (b := 1200) hb lb (by decide) (by decide)
  have bits : Builtin.Int.intBits b ≤ 1200 := PySem.intBits_le_iff.mpr lb
  by_cases h0 : 0 < a
  · refine ⟨a % b, [.int (a / b), .int s, .int i], ?_, m.1, m.2, a / b, s, i, rfl, Int.ediv_nonneg ha (by omega), hs0, hs1, hi0, by omega⟩
    exact i_rt (q_seqR (q_if (z_tst (z_op (z_op (z_see rfl) z_c rfl) z_c f_gt)) (ite_t (decide_eq_true h0) (q_seq (q_set (z_op (z_bi (z_cons (z_op (z_see rfl) z_c rfl) z_nil) rfl) (z_var rfl) (f_mod hb)) rfl) (q_seq (q_putAt (o := true) (o' := true) (n := 0) (z_op (z_op (z_see rfl) z_c rfl) (z_var rfl) (f_div cd)) rfl z_c rfl rfl rfl) (q_ret (z_var rfl))))))) rfl
  · have cb : CDivW ((Builtin.Int.intBits b : Nat) : Int) 30 := wide_div (b := 6) (by decide) (by decide) (by decide) (by decide)
    have hq : ((Builtin.Int.intBits b : Nat) : Int) / 30 ≤ 40 := by omega
    have hq0 : 0 ≤ ((Builtin.Int.intBits b : Nat) : Int) / 30 := by omega
    obtain ⟨d', s3', hd0, hl⟩ := ran_loop (a := a) (s := s) (b := b) ⟨hs0, hs1⟩ (1 + ((Builtin.Int.intBits b : Nat) : Int) / 30).toNat 0 0 i 0 .un pl_un hi0 (by omega) (by decide) (by decide) (by omega)
    have m2 := modb d' hb
    rw [← rngD_eq] at hl
    refine ⟨d' % b, [.int a, .int s, .int (i + (1 + ((Builtin.Int.intBits b : Nat) : Int) / 30).toNat)], ?_, m2.1, m2.2, a, s, _, rfl, ha, hs0, hs1, by omega, by omega⟩
    exact i_rt (q_seq (q_if (z_tst (z_op (z_op (z_see rfl) z_c rfl) z_c f_gt)) (ite_f (decide_eq_false h0) q_pass)) (q_seq (q_set z_c rfl) (q_seq (q_for (z_rng1 (z_cons (z_op z_c (z_op (z_un (z_var rfl) rfl) z_c (f_div cb)) f_add) z_nil) ⟨by omega, by omega⟩) hl) (q_ret (z_op (z_bi (z_cons (z_var rfl) z_nil) rfl) (z_var rfl) (f_mod hb)))))) rfl
end T66
set_option Elab.async false
set_option linter.all false
set_option maxRecDepth 100000
set_option maxHeartbeats 400000
namespace T66
open PySem PySem.Spec PyProof.Rows L2 DL MN
/-! ### finer bounds -/
theorem valFrom_le2 {n A B M : Nat} (hn : n < 2 ^ B) : ∀ (r : List Int) (k : Nat), (∀ x ∈ r, x.natAbs < 2 ^ A) → k + r.length ≤ M → (valFrom n k r).natAbs ≤ r.length * (2 ^ A * 2 ^ (B * M + 1))
  | [], _, _, _ => by rw [valFrom]; simp
  | x :: r, k, hx, hk => by
    rw [List.length_cons] at hk
    have ih := valFrom_le2 (M := M) hn r (k + 1) (fun y hy => hx y (List.mem_cons_of_mem _ hy)) (by omega)
    have c1 : ch n k < 2 ^ (B * k + 1) := ch_lt hn
    have c2 : 2 ^ (B * k + 1) ≤ 2 ^ (B * M + 1) := Nat.pow_le_pow_right (by decide) (by have := Nat.mul_le_mul (Nat.le_refl B) (show k ≤ M by omega); omega)
    have m : (x * (ch n k : Nat)).natAbs ≤ 2 ^ A * 2 ^ (B * M + 1) := by
      rw [Int.natAbs_mul, Int.natAbs_natCast]
      exact Nat.mul_le_mul (Nat.le_of_lt (hx x List.mem_cons_self)) (by omega)
    rw [valFrom, List.length_cons, Nat.add_mul, Nat.one_mul]
    have t := Int.natAbs_add_le (x * (ch n k : Nat)) (valFrom n (k + 1) r)
    omega
theorem val_lt2 {xs : List Int} {n A B M : Nat} (hn : n < 2 ^ B) (hx : ∀ x ∈ xs, x.natAbs < 2 ^ A) (hl : xs.length ≤ M) (hM : M ≤ 30) : (val xs n).natAbs < 2 ^ (A + B * M + 6) := by
  have h := valFrom_le2 (M := M) hn xs 0 hx (by omega)
  have h2 : xs.length * (2 ^ A * 2 ^ (B * M + 1)) ≤ 30 * (2 ^ A * 2 ^ (B * M + 1)) := Nat.mul_le_mul (by omega) (Nat.le_refl _)
  rw [← Nat.pow_add] at h h2
  have h3 : (2 : Nat) ^ (A + B * M + 6) = 32 * 2 ^ (A + (B * M + 1)) := by
    rw [show A + B * M + 6 = 5 + (A + (B * M + 1)) by omega, Nat.pow_add]
  have h4 : 0 < 2 ^ (A + (B * M + 1)) := Nat.pow_pos (by decide)
  unfold val
  omega
theorem diff1_lt {A : Nat} : ∀ xs : List Int, (∀ x ∈ xs, x.natAbs < 2 ^ A) → ∀ x ∈ diff1 xs, x.natAbs < 2 ^ (A + 1)
  | [], _, x, h => by simp [diff1] at h
  | [_], _, x, h => by simp [diff1] at h
  | y :: z :: r, hx, x, h => by
    rw [diff1] at h
    rcases List.mem_cons.mp h with e | h
    · have h1 := hx y List.mem_cons_self
      have h2 := hx z (List.mem_cons_of_mem _ List.mem_cons_self)
      rw [Nat.pow_succ]
      omega
    · exact diff1_lt (z :: r) (fun w hw => hx w (List.mem_cons_of_mem _ hw)) x h
theorem diffsN_lt {A : Nat} : ∀ (N : Nat) (xs : List Int) (k : Nat), (∀ x ∈ xs, x.natAbs < 2 ^ (A + k)) → ∀ x ∈ diffsN N xs, x.natAbs < 2 ^ (A + k + N)
  | 0, _, _, _, x, h => by simp [diffsN] at h
  | N + 1, [], _, _, x, h => by simp [diffsN] at h
  | N + 1, y :: r, k, hx, x, h => by
    rw [diffsN] at h
    rcases List.mem_cons.mp h with e | h
    · have h1 := hx y List.mem_cons_self
      rw [e]
      exact Nat.lt_of_lt_of_le h1 (Nat.pow_le_pow_right (by decide) (by omega))
    · have h2 := diffsN_lt (A := A) N (diff1 (y :: r)) (k + 1) (diff1_lt (y :: r) hx) x h
      rw [show A + (k + 1) + N = A + k + (N + 1) by omega] at h2
      exact h2
/-! ### drawn numbers -/
theorem p6 : fPow (.int 10) (.int 6) = some (.int 1000000) := by kernel_rfl
theorem p60 : fPow (.int 10) (.int 60) = some (.int (10 ^ 60)) := by kernel_rfl
theorem number_ok {g : List D} {n : Nat} (hg : GenOk n g) (hn : n < 2 ^ 37) : ∃ v g', F__law_number g [] = .ok (.int v) g' ∧ v.natAbs < 2 ^ 200 ∧ GenOk (n + 100) g' := by
  obtain ⟨r, g1, hr, r0, r1, hg1⟩ := random_ok (b := 6) hg (by omega) (by decide) (by decide)
  by_cases h0 : r = 0
  · exact ⟨0, g1, i_rt (q_seq (q_set (z_callI (o := true) (o' := true) rfl (z_cons z_c z_nil) rfl hr rfl) rfl) (q_seqR (q_if (z_tst (z_op (z_var rfl) z_c f_eqI)) (ite_t (decide_eq_true h0) (q_ret z_c))))) rfl, by decide, hg1.mono (by omega)⟩
  · by_cases h4 : r < 4
    · obtain ⟨r2, g2, hr2, a0, a1, hg2⟩ := random_ok (b := 9) hg1 (by omega) (by decide) (by decide)
      refine ⟨r2 - 4, g2, i_rt (q_seq (q_set (z_callI (o := true) (o' := true) rfl (z_cons z_c z_nil) rfl hr rfl) rfl) (q_seq (q_if (z_tst (z_op (z_var rfl) z_c f_eqI)) (ite_f (decide_eq_false h0) q_pass)) (q_seqR (q_if (z_tst (z_op (z_var rfl) z_c f_lt)) (ite_t (decide_eq_true h4) (q_ret (z_op (z_callI (o := true) (o' := true) rfl (z_cons z_c z_nil) rfl hr2 rfl) z_c f_sub))))))) rfl, ?_, hg2.mono (by omega)⟩
      exact Nat.lt_of_le_of_lt (show (r2 - 4).natAbs ≤ 10 by omega) (by decide)
    · have key : ∃ w : Int, (w = 1000000 ∨ w = 10 ^ 60) ∧ fIx (.lst [.int 1000000, .int (10 ^ 60)]) (.int (r - 4)) = some (.int w) := by
        have h5 : r = 4 ∨ r = 5 := by omega
        rcases h5 with h5 | h5
        · subst h5
          exact ⟨_, .inl rfl, rfl⟩
        · subst h5
          exact ⟨_, .inr rfl, rfl⟩
      obtain ⟨w, hw, hix⟩ := key
      have w0 : 0 < w := by rcases hw with rfl | rfl <;> decide
      have w1 : w ≤ 10 ^ 60 := by rcases hw with rfl | rfl <;> decide
      have w2 : w < 2 ^ 200 := Int.lt_of_le_of_lt w1 (by decide)
      have w3 : w.natAbs < 2 ^ 200 := by
        have e : ((2 ^ 200 : Nat) : Int) = (2 : Int) ^ 200 := by simp
        omega
      have mm : CMulW 2 w := wide_mul (a := 2) (b := 200) (by decide) w3 (by decide) (by decide) (by decide)
      have big : (2 : Int) ^ 200 * 3 < 2 ^ 1200 := by decide
      obtain ⟨r2, g2, hr2, a0, a1, hg2⟩ := random_ok (b := 2 * w + 1) hg1 (by omega) (by omega) (by omega)
      refine ⟨r2 - w, g2, i_rt (q_seq (q_set (z_callI (o := true) (o' := true) rfl (z_cons z_c z_nil) rfl hr rfl) rfl) (q_seq (q_if (z_tst (z_op (z_var rfl) z_c f_eqI)) (ite_f (decide_eq_false h0) q_pass)) (q_seq (q_if (z_tst (z_op (z_var rfl) z_c f_lt)) (ite_f (decide_eq_false h4) q_pass))
        (q_seq (q_set (z_op (z_ofN (z_lst (z_cons (z_op z_c z_c p6) (z_cons (z_op z_c z_c p60) z_nil)) (by decide))) (z_op (z_var rfl) z_c f_sub) hix) rfl) (q_ret (z_op (z_callI (o := true) (o' := true) rfl (z_cons (z_op (z_op z_c (z_var rfl) (f_mul mm)) z_c f_add) z_nil) rfl hr2 rfl) (z_var rfl) f_sub)))))) rfl, ?_, hg2.mono (by omega)⟩
      omega
theorem num_loop {s1 s3 s4 : Sl} : ∀ (m t n : Nat) (acc : List D) (g : List D), GenOk n g → n + 100 * m < 2 ^ 37 → acc.length + m ≤ 1000 → ∃ vs g', vs.length = m ∧ (∀ x ∈ vs, x.natAbs < 2 ^ 200) ∧ GenOk (n + 100 * m) g' ∧
    lcLoop (gNm 2) dYes (dCallI 0 F__law_number dNil) [2] ((List.range' t m).map fun i : Nat => D.int (i : Int)) acc [.own true g, s1, .un, s3, s4] = some (acc ++ LI vs, [.own true g', s1, .un, s3, s4])
  | 0, t, n, acc, g, hg, _, _ => ⟨[], g, rfl, fun x h => by simp at h, hg.mono (by omega), by show some (acc, _) = some (acc ++ [], _); rw [List.append_nil]⟩
  | m + 1, t, n, acc, g, hg, hn, ha => by
    obtain ⟨v, g1, hv, v1, hg1⟩ := number_ok hg (by omega)
    obtain ⟨vs, g', l1, l2, l3, ih⟩ := num_loop (s1 := s1) (s3 := s3) (s4 := s4) m (t + 1) (n + 100) (acc ++ [.int v]) g1 hg1 (by omega) (by rw [List.length_append, List.length_singleton]; omega)
    refine ⟨v :: vs, g', by rw [List.length_cons, l1], fun x hx => ?_, l3.mono (by omega), ?_⟩
    · rcases List.mem_cons.mp hx with rfl | hx
      · exact v1
      · exact l2 x hx
    · rw [range_cons]
      refine lc_cons (e1 := [.own true g, s1, .dat (.int (t : Nat)), s3, s4]) (e3 := [.own true g1, s1, .dat (.int (t : Nat)), s3, s4]) (e4 := [.own true g1, s1, .un, s3, s4]) rfl rfl (z_callI (o := true) (o' := true) rfl z_nil rfl hv rfl) rfl (by omega) ?_
      rw [ih, List.append_assoc]
      rfl
theorem few_loop {s0 s1 s2 : Sl} {few : List Int} (hf : ∀ x ∈ few, x.natAbs < 2 ^ 200) (hl : few.length ≤ 4) : ∀ (m s : Nat) (acc : List D), s + m ≤ 100 → acc.length + m ≤ 1000 →
    lcLoop (gNm 4) dYes (dCall F__law_value (dCons (dVar 3) (dCons (dVar 4) dNil))) [4] ((List.range' s m).map fun i : Nat => D.int (i : Int)) acc [s0, s1, s2, .dat (L few), .un] = some (acc ++ LI (uptoFrom (val few) s m), [s0, s1, s2, .dat (L few), .un])
  | 0, s, acc, _, _ => by show some (acc, _) = some (acc ++ [], _); rw [List.append_nil]
  | m + 1, s, acc, h, ha => by
    have v := value_ok (xs := few) (n := s) (A := 200) (B := 8) (by decide) (by decide) (by decide) (by decide) (Nat.lt_of_le_of_lt (show s ≤ 200 by omega) (by decide)) hf (by omega)
    have ih := few_loop (s0 := s0) (s1 := s1) (s2 := s2) hf hl m (s + 1) (acc ++ [.int (val few s)]) (by omega) (by rw [List.length_append, List.length_singleton]; omega)
    rw [range_cons]
    refine lc_cons (e1 := [s0, s1, s2, .dat (L few), .dat (.int (s : Nat))]) (e4 := [s0, s1, s2, .dat (L few), .un]) rfl rfl (z_call (z_cons (z_var rfl) (z_cons (z_var rfl) z_nil)) v) rfl (by omega) ?_
    rw [ih, uptoFrom, List.append_assoc]
    rfl
theorem mem_uptoFrom (h : Nat → Int) : ∀ (n s : Nat), ∀ x ∈ uptoFrom h s n, ∃ i, s ≤ i ∧ i < s + n ∧ x = h i
  | 0, _, x, hx => by simp [uptoFrom] at hx
  | n + 1, s, x, hx => by
    rw [uptoFrom] at hx
    rcases List.mem_cons.mp hx with e | hx
    · exact ⟨s, Nat.le_refl _, by omega, e⟩
    · obtain ⟨i, a, b, c⟩ := mem_uptoFrom h n (s + 1) x hx
      exact ⟨i, by omega, by omega, c⟩
theorem uptoFrom_length (h : Nat → Int) : ∀ (n s : Nat), (uptoFrom h s n).length = n
  | 0, _ => rfl
  | n + 1, s => by rw [uptoFrom, List.length_cons, uptoFrom_length h n]
theorem numbers_ok {g : List D} {n : Nat} (hg : GenOk n g) (hn : n < 2 ^ 36) : ∃ xs g', F__law_numbers g [] = .nw (LI xs) g' ∧ xs.length ≤ 13 ∧ (∀ x ∈ xs, x.natAbs < 2 ^ 240) ∧ GenOk (n + 3000) g' := by
  obtain ⟨a, g1, ha, a0, a1, hg1⟩ := random_ok (b := 5) hg (by omega) (by decide) (by decide)
  obtain ⟨b, g2, hb, b0, b1, hg2⟩ := random_ok (b := 9) hg1 (by omega) (by decide) (by decide)
  obtain ⟨c, g3, hc, c0, c1, hg3⟩ := random_ok (b := 3) hg2 (by omega) (by decide) (by decide)
  obtain ⟨d, g4, hd, d0, d1, hg4⟩ := random_ok (b := 3) hg3 (by omega) (by decide) (by decide)
  obtain ⟨M, hM, hix⟩ : ∃ M : Nat, M ≤ 13 ∧ fIx (.lst [.int a, .int b, .int 13]) (.int c) = some (.int (M : Int)) := by
    have h : c = 0 ∨ c = 1 ∨ c = 2 := by omega
    rcases h with h | h | h
    · subst h
      exact ⟨a.toNat, by omega, by rw [Int.toNat_of_nonneg a0]; rfl⟩
    · subst h
      exact ⟨b.toNat, by omega, by rw [Int.toNat_of_nonneg b0]; rfl⟩
    · subst h
      exact ⟨13, Nat.le_refl _, rfl⟩
  have st : dSet 1 (dOp fIx (dOfN (dLstE (dCons (dCallI 0 F__law_random (dCons (dC (.int 5)) dNil)) (dCons (dCallI 0 F__law_random (dCons (dC (.int 9)) dNil)) (dCons (dC (.int 13)) dNil))))) (dCallI 0 F__law_random (dCons (dC (.int 3)) dNil))) [.own true g, .un, .un, .un, .un] = .nx [.own true g3, .dat (.int (M : Nat)), .un, .un, .un] :=
    q_set (z_op (z_ofN (z_lst (z_cons (z_callI (o := true) (o' := true) rfl (z_cons z_c z_nil) rfl ha rfl) (z_cons (z_callI (o := true) (o' := true) rfl (z_cons z_c z_nil) rfl hb rfl) (z_cons z_c z_nil))) (show 3 ≤ 1000000 by decide))) (z_callI (o := true) (o' := true) rfl (z_cons z_c z_nil) rfl hc rfl) hix) rfl
  by_cases h0 : 0 < d
  · obtain ⟨vs, g', l1, l2, l3, h⟩ := num_loop (s1 := .dat (.int (M : Nat))) (s3 := .un) (s4 := .un) M 0 _ [] g4 hg4 (by omega) (by show 0 + M ≤ 1000; omega)
    rw [← rngD_eq, List.nil_append] at h
    refine ⟨vs, g', i_rn (q_seq st (q_seqN (q_if (z_tst (z_op (z_callI (o := true) (o' := true) rfl (z_cons z_c z_nil) rfl hd rfl) z_c f_gt)) (ite_t (decide_eq_true h0) (q_retN (z_lc (e2 := [.own true g4, .dat (.int (M : Nat)), .un, .un, .un]) (z_rng1 (z_cons (z_var rfl) z_nil) (by omega)) rfl (by rw [Int.toNat_natCast]; exact h) rfl)))))) rfl, by omega, fun x hx => Nat.lt_of_lt_of_le (l2 x hx) (by decide), l3.mono (by omega)⟩
  · obtain ⟨e, g5, he, e0, e1, hg5⟩ := random_ok (b := 4) hg4 (by omega) (by decide) (by decide)
    obtain ⟨few, g', l1, l2, l3, h⟩ := num_loop (s1 := .dat (.int (M : Nat))) (s3 := .un) (s4 := .un) e.toNat 0 _ [] g5 hg5 (by omega) (by show 0 + e.toNat ≤ 1000; omega)
    rw [← rngD_eq, List.nil_append] at h
    have h2 := few_loop (s0 := .own true g') (s1 := .dat (.int (M : Nat))) (s2 := .un) l2 (by omega) M 0 [] (by omega) (by show 0 + M ≤ 1000; omega)
    rw [← rngD_eq, List.nil_append] at h2
    refine ⟨uptoFrom (val few) 0 M, g', i_rn (q_seq st (q_seq (q_if (z_tst (z_op (z_callI (o := true) (o' := true) rfl (z_cons z_c z_nil) rfl hd rfl) z_c f_gt)) (ite_f (decide_eq_false h0) q_pass))
      (q_seq (q_set (z_ofN (z_lc (e2 := [.own true g5, .dat (.int (M : Nat)), .un, .un, .un]) (z_rng1 (z_cons (z_callI (o := true) (o' := true) rfl (z_cons z_c z_nil) rfl he rfl) z_nil) (by omega)) rfl h rfl)) rfl)
        (q_retN (z_lc (e2 := [.own true g', .dat (.int (M : Nat)), .un, .dat (L few), .un]) (z_rng1 (z_cons (z_var rfl) z_nil) (by omega)) rfl (by rw [Int.toNat_natCast]; exact h2) rfl))))) rfl, by rw [uptoFrom_length]; omega, fun x hx => ?_, l3.mono (by omega)⟩
    obtain ⟨i, i0, i1, rfl⟩ := mem_uptoFrom _ _ _ x hx
    have q := val_lt2 (xs := few) (n := i) (A := 200) (B := 4) (M := 4) (Nat.lt_of_lt_of_le (show i < 13 by omega) (by decide)) l2 (by omega) (by decide)
    exact Nat.lt_of_lt_of_le q (by decide)
end T66
set_option Elab.async false
set_option linter.all false
set_option maxRecDepth 100000
set_option maxHeartbeats 400000
namespace T66
open PySem PySem.Spec PyProof.Rows L2 DL MN
/-! ### counts -/
theorem p240 : fPow (.int (10 ^ 60)) (.int 4) = some (.int (10 ^ 240)) := by kernel_rfl
theorem p58 : fPow (.int 10) (.int 58) = some (.int (10 ^ 58)) := by kernel_rfl
theorem p298 : fMul (.int (10 ^ 240)) (.int (10 ^ 58)) = some (.int (10 ^ 298)) := by kernel_rfl
theorem p9 : fMul (.int 9) (.int (10 ^ 298)) = some (.int (9 * 10 ^ 298)) := by kernel_rfl
theorem p29 : fPow (.int 10) (.int 29) = some (.int (10 ^ 29)) := by kernel_rfl
theorem p600 : fPow (.int (10 ^ 60)) (.int 10) = some (.int (10 ^ 600)) := by kernel_rfl
theorem p18 : fPow (.int 10) (.int 18) = some (.int (10 ^ 18)) := by kernel_rfl
theorem far_lt : (10 : Int) ^ 298 + 9 * 10 ^ 298 < 2 ^ 994 := by decide +kernel
theorem near_lt : (10 : Int) ^ 29 < 2 ^ 994 := by decide +kernel
theorem far9_lt : (9 : Int) * 10 ^ 298 < 2 ^ 1200 := by decide +kernel
theorem far9_pos : (0 : Int) < 9 * 10 ^ 298 := by decide +kernel
theorem nat_lt {x : Int} {k : Nat} (h0 : 0 ≤ x) (h : x < 2 ^ k) : x.toNat < 2 ^ k := by
  have e : ((2 ^ k : Nat) : Int) = (2 : Int) ^ k := by simp
  omega
theorem counts_ok {g : List D} {n : Nat} (hg : GenOk n g) (hn : n < 2 ^ 36) : ∃ (ts : List Nat) (g' : List D), F__law_counts g [] = .nw (LI (ts.map fun t : Nat => (t : Int))) g' ∧ (∀ t ∈ ts, t < 2 ^ 994) ∧ GenOk (n + 200) g' := by
  obtain ⟨a, g1, ha, a0, a1, hg1⟩ := random_ok (b := 13) hg (by omega) (by decide) (by decide)
  obtain ⟨b, g2, hb, b0, b1, hg2⟩ := random_ok (b := 10 ^ 29) hg1 (by omega) (by decide) (by decide)
  obtain ⟨c, g3, hc, c0, c1, hg3⟩ := random_ok (b := 9 * 10 ^ 298) hg2 (by omega) far9_pos far9_lt
  have fl := far_lt
  have nl := near_lt
  have fp : (0 : Int) < 10 ^ 298 := by decide +kernel
  refine ⟨[0, 1, 2, a.toNat, b.toNat, (10 ^ 298 + c).toNat], g3, ?_, fun t ht => ?_, hg3.mono (by omega)⟩
  · have e : LI ([0, 1, 2, a.toNat, b.toNat, (10 ^ 298 + c).toNat].map fun t : Nat => (t : Int)) = [.int 0, .int 1, .int 2, .int a] ++ [.int b, .int (10 ^ 298 + c)] := by
      simp only [List.map_cons, List.map_nil]
      rw [Int.toNat_of_nonneg a0, Int.toNat_of_nonneg b0, Int.toNat_of_nonneg (show 0 ≤ 10 ^ 298 + c by omega)]
      rfl
    rw [e]
    exact i_rn (q_seq (q_set (z_ofN (z_lst (z_cons z_c (z_cons z_c (z_cons z_c (z_cons (z_callI (o := true) (o' := true) rfl (z_cons z_c z_nil) rfl ha rfl) z_nil)))) (show 4 ≤ 1000000 by decide))) rfl) (q_seq (q_set (z_op (z_op (z_op z_c z_c p60) z_c p240) (z_op z_c z_c p58) p298) rfl)
      (q_retN (z_cat (z_var rfl) (z_ofN (z_lst (z_cons (z_callI (o := true) (o' := true) rfl (z_cons (z_op z_c z_c p29) z_nil) rfl hb rfl) (z_cons (z_op (z_var rfl) (z_callI (o := true) (o' := true) rfl (z_cons (z_op z_c (z_var rfl) p9) z_nil) rfl hc rfl) f_add) z_nil)) (show 2 ≤ 1000000 by decide))) (show 4 + 2 ≤ 1000000 by decide))))) rfl
  · simp only [List.mem_cons, List.not_mem_nil, or_false] at ht
    rcases ht with h | h | h | h | h | h
    · rw [h]; exact Nat.pow_pos (by decide)
    · rw [h]; decide
    · rw [h]; decide
    · rw [h]; exact Nat.lt_of_lt_of_le (show a.toNat < 13 by omega) (by decide)
    · rw [h]; exact nat_lt b0 (by omega)
    · rw [h]; exact nat_lt (by omega) (by omega)
/-! ### the generator -/
theorem cell_ok (ns : List Int) (i : Nat) : ∃ s, F__law_cell [.fro (LI ns), .int i] = .ok (.int s) := by
  by_cases h : i < ns.length
  · refine ⟨ns[i], p_rt (q_seqR (q_if (z_tst (z_op (z_var rfl) (z_bi (z_cons (z_var rfl) z_nil) rfl) f_lt)) (ite_t (decide_eq_true (by rw [List.length_map]; omega)) (q_ret (z_op (z_var rfl) (z_var rfl) ?_)))))⟩
    exact at_nat (List.getElem?_eq_getElem h)
  · have t : dTst (dOp fLt (dVar 1) (dBi bLen (dCons (dVar 0) dNil))) [.dat (.fro (LI ns)), .dat (.int i)] = .ok (decide ((i : Int) < ((LI ns).length : Nat))) [.dat (.fro (LI ns)), .dat (.int i)] := z_tst (z_op (z_var rfl) (z_bi (z_cons (z_var rfl) z_nil) rfl) f_lt)
    have hf : decide ((i : Int) < ((LI ns).length : Nat)) = false := decide_eq_false (by rw [List.length_map]; omega)
    cases ns with
    | nil => exact ⟨_, p_rt (q_seq (q_if t (ite_f hf q_pass)) (q_ret (z_op (z_bi (z_cons (z_ofN (z_slF (z_var rfl) z_noP (z_part z_c))) z_nil) rfl) z_c (f_mod (by decide)))))⟩
    | cons x r =>
      have e : bSum [.lst (DL.cutD (LI (x :: r)) none (some 1))] = some (.int x) := by
        rw [show (some 1 : Option Int) = some ((1 : Nat) : Int) from rfl, cut_to (x :: r) (k := 1) (by rw [List.length_cons]; omega)]
        rw [show (x :: r).take 1 = [x] from by simp]
        show some (D.int [x].sum) = _
        rw [List.sum_cons, List.sum_nil, Int.add_zero]
      exact ⟨_, p_rt (q_seq (q_if t (ite_f hf q_pass)) (q_ret (z_op (z_bi (z_cons (z_ofN (z_slF (z_var rfl) z_noP (z_part z_c))) z_nil) e) z_c (f_mod (by decide)))))⟩
theorem generator_ok (ns : List Int) {i : Nat} (hi : i ≤ 2) : ∃ g, F__law_generator [.fro (LI ns), .int i] = .nw g ∧ GenOk 3000 g := by
  obtain ⟨s, hs⟩ := cell_ok ns i
  have mm : CMulW 1000 (i : Int) := wide_mul (a := 10) (b := 10) (by decide) (by omega) (by decide) (by decide) (by decide)
  have hp : (0 : Int) < 10 ^ 600 := by decide +kernel
  refine ⟨_, p_rn (q_seq (q_set (z_call (z_cons (z_var rfl) (z_cons (z_var rfl) z_nil)) hs) rfl) (q_retN (z_lst (z_cons (z_op (z_bi (z_cons (z_bi (z_cons (z_op (z_var rfl) (z_op z_c z_c p18) f_sub) (z_cons z_c z_nil)) rfl) z_nil) rfl) (z_op (z_op z_c z_c p60) z_c p600) (f_mod hp)) (z_cons (z_op (z_bi (z_cons (z_var rfl) z_nil) rfl) z_c (f_mod (by decide))) (z_cons (z_op z_c (z_var rfl) (f_mul mm)) z_nil))) (show 3 ≤ 1000000 by decide)))), ?_⟩
  have m1 := modb (if (0 : Int) > s - 10 ^ 18 then 0 else s - 10 ^ 18) hp
  have m2 := modb s (m := 2147483647) (by decide)
  exact ⟨_, _, _, rfl, m1.1, m2.1, by omega, by omega, by omega⟩
/-! ### is it a row -/
theorem sc_LI (xs : List Int) : (LI xs).all isSc = true := by
  rw [List.all_eq_true]
  intro d hd
  obtain ⟨x, _, rfl⟩ := List.mem_map.mp hd
  rfl
theorem odd_none2 (D0 : D) : ∀ xs : List Int, lcLoop (gNm 1) (dOrT (dNotT (dTst (dUn (fIsi "int") (dVar 1)))) (dTst (dUn (fIsi "bool") (dVar 1)))) (dVar 1) [1] (LI xs) [] [.dat D0, .un] = some ([], [.dat D0, .un])
  | [] => lc_nil
  | x :: r => lc_skip (e1 := [.dat D0, .dat (.int x)]) rfl (z_orT (z_notT (z_tst (z_un (z_var rfl) rfl))) (ite_f rfl (z_tst (z_un (z_var rfl) rfl)))) rfl (odd_none2 D0 r)
theorem is_row_ok {xs : List Int} (h : RowOk xs) : F__law_is_row [L xs] = .ok (.bl true) := by
  have e : DL.cutD (LI xs) (some (((LI xs).length : Nat) - 1)) none = LI (xs.drop (xs.length - 1)) := by
    rw [List.length_map]
    cases xs with
    | nil => rfl
    | cons x r =>
      rw [show (((x :: r).length : Nat) : Int) - 1 = (((x :: r).length - 1 : Nat) : Int) by rw [List.length_cons]; omega]
      exact cut_from (x :: r) (by omega)
  have t : dTst (dOp fEq (dOfN (dSlL (dVar 0) (dPart (dOp fSub (dBi bLen (dCons (dVar 0) dNil)) (dC (.int 1)))) dNoP)) (dOfN (dLstE (dCons (dC (.int 0)) dNil)))) [.dat (L xs), .un] = .ok (decide (xs.drop (xs.length - 1) = [0])) [.dat (L xs), .un] := by
    refine z_tst (z_op (z_ofN (z_slL (z_var rfl) (z_part (z_op (z_bi (z_cons (z_var rfl) z_nil) f_len) z_c f_sub)) z_noP)) (z_ofN (z_lst (z_cons z_c z_nil) (show 1 ≤ 1000000 by decide))) ?_)
    rw [e]
    exact f_eqL (xs := xs.drop (xs.length - 1)) (ys := [0])
  rw [decide_eq_false (show ¬ xs.drop (xs.length - 1) = [0] from h)] at t
  exact p_rt (q_seq (q_if (z_orT (z_notT (z_tst (z_un (z_var rfl) rfl))) (ite_f rfl t)) (ite_f rfl q_pass)) (q_ret (z_op (z_ofN (z_lc (e2 := [.dat (L xs), .un]) (z_items (z_var rfl)) rfl (odd_none2 (L xs) xs) rfl)) (z_ofN (z_lst z_nil (by decide))) (f_eqL (xs := []) (ys := [])))))
/-! ### a made row is right -/
theorem log_lt {x : Int} (h : x.natAbs < 2 ^ 1900) : x.natAbs.log2 < 1920 := Nat.lt_trans (PySem.Flt.log2_lt_of (by decide) h) (by decide)
theorem low_small {xs : List Int} {A : Nat} (hx : ∀ x ∈ xs, x.natAbs < 2 ^ A) (hl : xs.length ≤ 13) : ∀ x ∈ trim (diffs xs), x.natAbs < 2 ^ (A + 13) := fun x h => by
  have h2 := diffsN_lt (A := A) xs.length xs 0 hx x (mem_trim h)
  exact Nat.lt_of_lt_of_le h2 (Nat.pow_le_pow_right (by decide) (by omega))
theorem val_low {xs : List Int} {i : Nat} {a : Int} (h : xs[i]? = some a) : val (trim (diffs xs)) i = a := by rw [val_trim]; exact val_diffs _ xs rfl i a h
theorem made_loop {xs0 told : List Int} {s5 : Sl} {s1 : Sl} (hr : RowOk told) (ht : ∀ x ∈ told, x.natAbs < 2 ^ 1000) (hl : told.length ≤ 100) : ∀ (r : List Int) (k : Nat) (s3 s4 : Sl), Pl s3 → Pl s4 → k + r.length ≤ 100 → (∀ i x, r[i]? = some x → val told (k + i) = x ∧ x.natAbs < 2 ^ 1900) → ∃ s3' s4',
    dLoop (gTwo (gNm 3) (gNm 4)) (dIf (dTst (dOp fNe (dUn fRepr (dCall F_row_value (dCons (dOfN (dListSee 2)) (dCons (dVar 3) dNil)))) (dUn fRepr (dVar 4)))) (dRet (dC (.bl false))) dPass) (enumD k (LI r))
      [.dat (L xs0), s1, .own false (LI told), s3, s4, s5] = .nx [.dat (L xs0), s1, .own false (LI told), s3', s4', s5]
  | [], k, s3, s4, _, _, _, _ => ⟨s3, s4, rfl⟩
  | x :: r, k, s3, s4, p3, p4, hk, hv => by
    rw [List.length_cons] at hk
    obtain ⟨s3', s4', ih⟩ := made_loop (xs0 := xs0) (s5 := s5) (s1 := s1) hr ht hl r (k + 1) (.dat (.int (k : Nat))) (.dat (.int x)) pl_dat pl_dat (by omega) (fun i y hy => by
      have q := hv (i + 1) y (by simpa using hy)
      rw [show k + (i + 1) = k + 1 + i by omega] at q
      exact q)
    have q := hv 0 x rfl
    have rv := row_value_ok (xs := told) (n := k) (A := 1000) (B := 8) hr (by decide) (by decide) (Nat.lt_of_le_of_lt (show k ≤ 200 by omega) (by decide)) ht (by omega) (by decide)
    rw [show val told k = x from q.1] at rv
    have rp : x.natAbs < 10 ^ 4300 := Nat.lt_trans q.2 (by decide +kernel)
    obtain ⟨t, ht1, ht2⟩ := repr_int rp
    refine ⟨s3', s4', ?_⟩
    show dLoop _ _ (.tup [.int (k : Nat), .int x] :: enumD (k + 1) (LI r)) _ = _
    refine loop_cons (e1 := [.dat (L xs0), s1, .own false (LI told), .dat (.int (k : Nat)), .dat (.int x), s5]) (e2 := [.dat (L xs0), s1, .own false (LI told), .dat (.int (k : Nat)), .dat (.int x), s5]) ?_ (q_if (z_tst (z_op (z_un (z_call (z_cons (z_ofN (z_listSee rfl)) (z_cons (z_var rfl) z_nil)) rv) ht1) (z_un (z_var rfl) ht1) (f_neS ht2))) (ite_f rfl q_pass)) ih
    show (put 3 _ _).bind _ = _
    rw [put_pl rfl p3]
    show put 4 _ _ = _
    rw [put_pl rfl p4]
    rfl
theorem made_right_ok {xs : List Int} (hl : xs.length ≤ 13) (hx : ∀ x ∈ xs, x.natAbs < 2 ^ 240) : F__law_made_right [L xs] = .ok (.bl true) := by
  have hd : (diffs xs).length = xs.length := diffs_length _ _ rfl
  have lt : (trim (diffs xs)).length ≤ 13 := Nat.le_trans (len_trim _) (by omega)
  have st : ∀ x ∈ trim (diffs xs), x.natAbs < 2 ^ 1000 := fun x h => Nat.lt_of_lt_of_le (low_small hx hl x h) (by decide)
  obtain ⟨t1, r1, o1⟩ := repr_L xs (fun x h => log_lt (Nat.lt_of_lt_of_le (hx x h) (by decide))) (by omega)
  obtain ⟨t2, r2, o2⟩ := repr_L (trim (diffs xs)) (fun x h => log_lt (Nat.lt_of_lt_of_le (st x h) (by decide))) (by omega)
  have hb := binomial_row_ok (xs := xs) (by omega)
  have hdif := differences_ok (xs := xs) (by omega)
  have hrow := is_row_ok (ok_trim (diffs xs))
  obtain ⟨s3, s4, lp⟩ := made_loop (xs0 := xs) (told := trim (diffs xs)) (s5 := .un) (s1 := .own false (LI xs)) (ok_trim _) st (by omega) xs 0 .un .un pl_un pl_un (by omega) (fun i x h => ⟨by rw [Nat.zero_add]; exact val_low h, Nat.lt_of_lt_of_le (hx x (List.mem_of_getElem? h)) (by decide)⟩)
  have ne : fNe (L (trim (diffs xs))) (L (trim (diffs xs))) = some (.bl false) := by rw [f_neL, decide_eq_true rfl]; rfl
  exact p_rt (q_seq (q_new (z_listOf (z_cons (z_var rfl) z_nil)) rfl) (q_seq (q_new (z_callRN (z_cons (z_see rfl) z_nil) hb (sc_LI _)) rfl) (q_seq (q_if (z_orT (z_tst (z_op (z_un (z_see rfl) r1) (z_un (z_var rfl) r1) (f_neS o1))) (ite_f rfl (z_orT (z_notT (z_tst (z_callR (z_cons (z_see rfl) z_nil) hrow rfl))) (ite_f rfl (z_tst (z_op (z_see rfl) (z_callW (z_cons (z_var rfl) z_nil) hdif) ne)))))) (ite_f rfl q_pass))
    (q_seq (q_for (z_enumL (z_cons (z_var rfl) z_nil)) lp) (q_seq (q_set (z_ofN (z_listSee rfl)) rfl) (q_seq (q_append (o := false) (o' := false) rfl z_c rfl (by rw [List.length_map]; omega) rfl) (q_seq (q_append (o := false) (o' := false) rfl z_c rfl (by rw [List.length_map]; omega) rfl)
      (q_ret (z_and1 (z_op (z_un (z_callW (z_cons (z_ofN (z_listOf (z_cons (z_var rfl) z_nil))) z_nil) hb) r2) (z_un (z_var rfl) r2) (f_eqS o2)) (z_op (z_un (z_callW (z_rev (z_cons (z_ofN (z_listOf (z_cons (z_var rfl) z_nil))) z_nil) rfl) hb) r2) (z_un (z_var rfl) r2) (f_eqS o2)))))))))))
end T66
set_option Elab.async false
set_option linter.all false
set_option maxRecDepth 100000
set_option maxHeartbeats 400000
namespace T66
open PySem PySem.Spec PyProof.Rows L2 DL MN
/-! ### near rows -/
theorem last_drop (l : List Int) (w : Int) : (l ++ [w]).drop ((l ++ [w]).length - 1) = [w] := by
  rw [List.length_append, List.length_singleton, Nat.add_sub_cancel, List.drop_left]
theorem rowOk_snoc {l : List Int} {w : Int} : RowOk (l ++ [w]) ↔ w ≠ 0 := by
  unfold RowOk
  rw [last_drop]
  simp
theorem val_mid (a r : List Int) (y : Int) (i : Nat) : val (a ++ y :: r) i = valFrom i 0 a + (y * (ch i a.length : Nat) + valFrom i (a.length + 1) r) := by
  unfold val
  rw [valFrom_append, valFrom, Nat.zero_add]
theorem val_below {a r : List Int} {x y : Int} {i : Nat} (h : i < a.length) : val (a ++ y :: r) i = val (a ++ x :: r) i := by
  rw [val_mid, val_mid, ch_gt i a.length h]
  simp
theorem val_there {a r : List Int} {x y : Int} (h : y ≠ x) : val (a ++ y :: r) a.length ≠ val (a ++ x :: r) a.length := by
  rw [val_mid, val_mid, ch_self]
  simp only [Int.natCast_one, Int.mul_one]
  omega
theorem near_loop {s0 s1 : Sl} {a r : List Int} {x y : Int} {p : D} (ox : RowOk (a ++ x :: r)) (oy : RowOk (a ++ y :: r)) (hx : ∀ z ∈ a ++ x :: r, z.natAbs < 2 ^ 300) (hy : ∀ z ∈ a ++ y :: r, z.natAbs < 2 ^ 300) (hl : (a ++ x :: r).length ≤ 100) (hl2 : (a ++ y :: r).length ≤ 100) : ∀ (m s : Nat) (s4 : Sl), s + m ≤ a.length → Pl s4 → ∃ s4',
    dLoop (gNm 4) (dIf (dTst (dOp fNe (dCall F_row_value (dCons (dOfN (dListSee 3)) (dCons (dVar 4) dNil))) (dCall F_row_value (dCons (dOfN (dListOf (dCons (dVar 1) dNil))) (dCons (dVar 4) dNil))))) (dRet (dC (.bl false))) dPass) ((List.range' s m).map fun i : Nat => D.int (i : Int))
      [s0, .dat (L (a ++ x :: r)), .dat p, .own false (LI (a ++ y :: r)), s4] = .nx [s0, .dat (L (a ++ x :: r)), .dat p, .own false (LI (a ++ y :: r)), s4']
  | 0, s, s4, _, _ => ⟨s4, rfl⟩
  | m + 1, s, s4, h, p4 => by
    obtain ⟨s4', ih⟩ := near_loop (s0 := s0) (s1 := s1) (p := p) ox oy hx hy hl hl2 m (s + 1) (.dat (.int (s : Nat))) (by omega) pl_dat
    have al : a.length ≤ 100 := by rw [List.length_append] at hl; omega
    have sb : s < 2 ^ 8 := Nat.lt_of_le_of_lt (show s ≤ 200 by omega) (by decide)
    have v1 := row_value_ok (xs := a ++ y :: r) (n := s) (A := 300) (B := 8) oy (by decide) (by decide) sb hy (by omega) (by decide)
    have v2 := row_value_ok (xs := a ++ x :: r) (n := s) (A := 300) (B := 8) ox (by decide) (by decide) sb hx (by omega) (by decide)
    rw [val_below (x := x) (show s < a.length by omega)] at v1
    have ne : fNe (.int (val (a ++ x :: r) s)) (.int (val (a ++ x :: r) s)) = some (.bl false) := by rw [f_neI, decide_eq_true rfl]; rfl
    refine ⟨s4', ?_⟩
    rw [range_cons]
    exact loop_cons (e1 := [s0, .dat (L (a ++ x :: r)), .dat p, .own false (LI (a ++ y :: r)), .dat (.int (s : Nat))]) (e2 := [s0, .dat (L (a ++ x :: r)), .dat p, .own false (LI (a ++ y :: r)), .dat (.int (s : Nat))]) (put_pl rfl p4) (q_if (z_tst (z_op (z_call (z_cons (z_ofN (z_listSee rfl)) (z_cons (z_var rfl) z_nil)) v1) (z_call (z_cons (z_ofN (z_listOf (z_cons (z_var rfl) z_nil))) (z_cons (z_var rfl) z_nil)) v2) ne)) (ite_f rfl q_pass)) ih
/-- the item is made another one, so that no zero stands at the end -/
theorem near_fix {s0 : Sl} {a r : List Int} {x : Int} (ox : RowOk (a ++ x :: r)) : ∃ y, (y = x + 1 ∨ y = x + 2) ∧ RowOk (a ++ y :: r) ∧
    dIf (dTst (dOp fEq (dOp fIxF (dSee 3) (dOp fSub (dBi bLen (dCons (dSee 3) dNil)) (dC (.int 1)))) (dC (.int 0)))) (dPutAt 3 (dOp fSub (dBi bLen (dCons (dSee 3) dNil)) (dC (.int 1))) (dOp fAdd (dOp fIx (dVar 1) (dVar 2)) (dC (.int 2)))) dPass
      [s0, .dat (L (a ++ x :: r)), .dat (.int (a.length : Nat)), .own false (LI (a ++ (x + 1) :: r)), .un] = .nx [s0, .dat (L (a ++ x :: r)), .dat (.int (a.length : Nat)), .own false (LI (a ++ y :: r)), .un] := by
  have hix : fIx (L (a ++ x :: r)) (.int (a.length : Nat)) = some (.int x) := ix_nat rfl (by rw [List.getElem?_append_right (Nat.le_refl _), Nat.sub_self]; rfl)
  have test : ∀ (l : List Int) (w : Int), a ++ (x + 1) :: r = l ++ [w] → dTst (dOp fEq (dOp fIxF (dSee 3) (dOp fSub (dBi bLen (dCons (dSee 3) dNil)) (dC (.int 1)))) (dC (.int 0))) [s0, .dat (L (a ++ x :: r)), .dat (.int (a.length : Nat)), .own false (LI (a ++ (x + 1) :: r)), .un] = .ok (decide (w = 0)) [s0, .dat (L (a ++ x :: r)), .dat (.int (a.length : Nat)), .own false (LI (a ++ (x + 1) :: r)), .un] := by
    intro l w e
    have hf : fIxF (L (a ++ (x + 1) :: r)) (.int (((LI (a ++ (x + 1) :: r)).length : Nat) - 1)) = some (.int w) := by
      unfold fIxF
      rw [ix_nat (n := l.length) (x := w) (by rw [List.length_map, e, List.length_append, List.length_singleton]; omega) (by rw [e, List.getElem?_append_right (Nat.le_refl _), Nat.sub_self]; rfl)]
      rfl
    exact z_tst (z_op (z_op (z_see rfl) (z_op (z_bi (z_cons (z_see rfl) z_nil) f_len) z_c f_sub) hf) z_c f_eqI)
  rcases List.eq_nil_or_concat r with e | ⟨l, w, e⟩
  · subst e
    have t := test a (x + 1) rfl
    by_cases h0 : x + 1 = 0
    · rw [decide_eq_true h0] at t
      refine ⟨x + 2, .inr rfl, rowOk_snoc.mpr (by omega), q_if t (ite_t rfl (q_putAt (o := false) (o' := false) (n := a.length) (z_op (z_op (z_var rfl) (z_var rfl) hix) z_c f_add) rfl (z_op (z_bi (z_cons (z_see rfl) z_nil) f_len) z_c f_sub) rfl ?_ ?_))⟩
      · rw [List.length_map, List.length_append, List.length_singleton]
        unfold ixN
        rw [if_pos (by omega), if_pos (by omega)]
        congr 1
        omega
      · have e2 : (LI (a ++ [x + 1])).set a.length (.int (x + 2)) = LI (a ++ [x + 2]) := by
          rw [LI_append, LI_append, List.set_append_right _ _ (by rw [List.length_map]; exact Nat.le_refl _), List.length_map, Nat.sub_self]
          rfl
        show [s0, _, _, Sl.own false ((LI (a ++ [x + 1])).set a.length (.int (x + 2))), Sl.un] = _
        rw [e2]
    · rw [decide_eq_false h0] at t
      exact ⟨x + 1, .inl rfl, rowOk_snoc.mpr h0, q_if t (ite_f rfl q_pass)⟩
  · rw [List.concat_eq_append] at e
    subst e
    have ew : ∀ z : Int, a ++ z :: (l ++ [w]) = (a ++ z :: l) ++ [w] := fun z => by rw [List.append_assoc, List.cons_append]
    have w0 : w ≠ 0 := by
      rw [ew] at ox
      exact rowOk_snoc.mp ox
    have t := test (a ++ (x + 1) :: l) w (ew _)
    rw [decide_eq_false w0] at t
    exact ⟨x + 1, .inl rfl, by rw [ew]; exact rowOk_snoc.mpr w0, q_if t (ite_f rfl q_pass)⟩
theorem near_right_ok {g : List D} {n : Nat} {xs : List Int} (hg : GenOk n g) (hn : n < 2 ^ 36) (ox : RowOk xs) (hl : xs.length ≤ 13) (hx : ∀ z ∈ xs, z.natAbs < 2 ^ 260) : ∃ g', F__law_near_right g [L xs] = .ok (.bl true) g' ∧ GenOk (n + 50) g' := by
  cases hxs : xs with
  | nil =>
    obtain ⟨r, g1, hr, r0, r1, hg1⟩ := random_ok (b := 10 ^ 29) hg (by omega) (by decide) (by decide)
    have rb : r.toNat < 2 ^ 994 := nat_lt r0 (by have := near_lt; omega)
    have v := row_value_ok (xs := []) (n := r.toNat) (A := 1) (B := 994) (by unfold RowOk; decide) (by decide) (by decide) rb (fun z h => by simp at h) (by decide) (by decide)
    rw [Int.toNat_of_nonneg r0, val_nil] at v
    exact ⟨g1, i_rt (q_seqR (q_if (z_tst (z_op (z_var rfl) (z_ofN (z_lst z_nil (by decide))) (f_eqL (xs := []) (ys := [])))) (ite_t rfl (q_ret (z_op (z_call (z_cons (z_ofN (z_lst z_nil (by decide))) (z_cons (z_callI (o := true) (o' := true) rfl (z_cons (z_op z_c z_c p29) z_nil) rfl hr rfl) z_nil)) v) z_c (by rw [f_eqI]; rfl)))))) rfl, hg1⟩
  | cons c cs =>
    have lp : 0 < xs.length := by rw [hxs, List.length_cons]; omega
    rw [← hxs]
    obtain ⟨p, g1, hp, p0, p1, hg1⟩ := random_ok (b := ((LI xs).length : Nat)) hg (by omega) (by rw [List.length_map]; omega) (Int.lt_of_le_of_lt (show (((LI xs).length : Nat) : Int) ≤ 13 by rw [List.length_map]; omega) (by decide))
    rw [List.length_map] at p1
    have pl : p.toNat < xs.length := by omega
    have ex : xs = xs.take p.toNat ++ xs[p.toNat] :: xs.drop (p.toNat + 1) := by
      rw [← List.drop_eq_getElem_cons pl, List.take_append_drop]
    have la : (xs.take p.toNat).length = p.toNat := by rw [List.length_take]; omega
    have hdr : xs.drop (p.toNat + 1) = xs.drop (p.toNat + 1) := rfl
    generalize ea : xs.take p.toNat = a at ex la
    generalize ey : xs[p.toNat] = x at ex
    generalize er : xs.drop (p.toNat + 1) = r at ex
    have ep : p = (a.length : Nat) := by omega
    have c1 : DL.cutD (LI xs) none (some p) = LI a := by
      rw [ep, la, cut_to xs (by omega), ea]
    have c2 : DL.cutD (LI xs) (some (p + 1)) none = LI r := by
      rw [show p + 1 = ((p.toNat + 1 : Nat) : Int) by omega, cut_from xs (by omega), er]
    have hix : fIx (L xs) (.int p) = some (.int x) := ix_nat (n := p.toNat) (by omega) (by rw [List.getElem?_eq_getElem pl, ey])
    have lr : a.length + (r.length + 1) ≤ 13 := by
      have q := congrArg List.length ex
      rw [List.length_append, List.length_cons] at q
      omega
    have ox2 : RowOk (a ++ x :: r) := by rw [← ex]; exact ox
    have hx2 : ∀ z ∈ a ++ x :: r, z.natAbs < 2 ^ 260 := by rw [← ex]; exact hx
    obtain ⟨y, hy, oy, fx⟩ := near_fix (s0 := .own true g1) ox2
    have yx : y ≠ x := by omega
    have xb := hx2 x (by simp)
    have hy2 : ∀ z ∈ a ++ y :: r, z.natAbs < 2 ^ 300 := fun z hz => by
      rcases List.mem_append.mp hz with h | h
      · exact Nat.lt_of_lt_of_le (hx2 z (List.mem_append_left _ h)) (by decide)
      · rcases List.mem_cons.mp h with h | h
        · rw [h]
          have t : (2 : Nat) ^ 260 + 2 < 2 ^ 300 := by decide
          omega
        · exact Nat.lt_of_lt_of_le (hx2 z (List.mem_append_right _ (List.mem_cons_of_mem _ h))) (by decide)
    have hx3 : ∀ z ∈ a ++ x :: r, z.natAbs < 2 ^ 300 := fun z hz => Nat.lt_of_lt_of_le (hx2 z hz) (by decide)
    have l1 : (a ++ x :: r).length ≤ 100 := by rw [List.length_append, List.length_cons]; omega
    have l2 : (a ++ y :: r).length ≤ 100 := by rw [List.length_append, List.length_cons]; omega
    obtain ⟨s4, lp2⟩ := near_loop (s0 := .own true g1) (s1 := .un) (p := .int p) ox2 oy hx3 hy2 l1 l2 a.length 0 .un (by omega) pl_un
    rw [← rngD_eq] at lp2
    have sb : a.length < 2 ^ 8 := Nat.lt_of_le_of_lt (show a.length ≤ 200 by omega) (by decide)
    have v1 := row_value_ok (xs := a ++ y :: r) (n := a.length) (A := 300) (B := 8) oy (by decide) (by decide) sb hy2 (by omega) (by decide)
    have v2 := row_value_ok (xs := a ++ x :: r) (n := a.length) (A := 300) (B := 8) ox2 (by decide) (by decide) sb hx3 (by omega) (by decide)
    have ne : fNe (.int (val (a ++ y :: r) a.length)) (.int (val (a ++ x :: r) a.length)) = some (.bl true) := by rw [f_neI, decide_eq_false (val_there yx)]; rfl
    rw [← ep] at v1 v2 fx
    rw [← ex] at v2 fx lp2 ne
    have hne : decide (xs = []) = false := decide_eq_false (by rw [hxs]; simp)
    have e3 : LI a ++ [D.int (x + 1)] ++ LI r = LI (a ++ (x + 1) :: r) := by rw [LI_append]; show _ = LI a ++ (D.int (x + 1) :: LI r); rw [List.append_assoc]; rfl
    refine ⟨g1, i_rt (q_seq (q_if (z_tst (z_op (z_var rfl) (z_ofN (z_lst z_nil (by decide))) (f_eqL (xs := xs) (ys := [])))) (ite_f hne q_pass)) (q_seq (q_set (z_callI (o := true) (o' := true) rfl (z_cons (z_bi (z_cons (z_var rfl) z_nil) f_len) z_nil) rfl hp rfl) rfl)
      (q_seq (e1 := [.own true g1, .dat (L xs), .dat (.int p), .own false (LI (a ++ (x + 1) :: r)), .un]) ?_ (q_seq fx (q_seq (q_for (z_rng1 (z_cons (z_var rfl) z_nil) (by omega)) (by rw [show p.toNat = ((a.length : Nat) : Int).toNat by rw [← ep]]; exact lp2)) (q_ret (z_op (z_call (z_cons (z_ofN (z_listSee rfl)) (z_cons (z_var rfl) z_nil)) v1) (z_call (z_cons (z_ofN (z_listOf (z_cons (z_var rfl) z_nil))) (z_cons (z_var rfl) z_nil)) v2) ne))))))) rfl, hg1⟩
    have h1 : dSlL (dVar 1) dNoP (dPart (dVar 2)) [.own true g1, .dat (L xs), .dat (.int p), .un, .un] = .ok (LI a) [.own true g1, .dat (L xs), .dat (.int p), .un, .un] := by
      rw [← c1]
      exact z_slL (z_var rfl) z_noP (z_part (z_var rfl))
    have h2 : dSlL (dVar 1) (dPart (dOp fAdd (dVar 2) (dC (.int 1)))) dNoP [.own true g1, .dat (L xs), .dat (.int p), .un, .un] = .ok (LI r) [.own true g1, .dat (L xs), .dat (.int p), .un, .un] := by
      rw [← c2]
      exact z_slL (z_var rfl) (z_part (z_op (z_var rfl) z_c f_add)) z_noP
    refine q_new (xs := LI (a ++ (x + 1) :: r)) (e1 := [.own true g1, .dat (L xs), .dat (.int p), .un, .un]) ?_ rfl
    rw [← e3]
    exact z_cat (z_ofN (z_cat (z_ofN h1) (z_ofN (z_lst (z_cons (z_op (z_op (z_var rfl) (z_var rfl) hix) z_c f_add) z_nil) (show 1 ≤ 1000000 by decide))) (by rw [List.length_map]; show a.length + 1 ≤ _; omega))) (z_ofN h2) (by rw [List.length_append, List.length_map, List.length_map]; show a.length + 1 + r.length ≤ _; omega)
end T66
set_option Elab.async false
set_option linter.all false
set_option maxRecDepth 100000
set_option maxHeartbeats 400000
set_option exponentiation.threshold 20000
namespace T66
open PySem PySem.Spec PyProof.Rows L2 DL MN
/-! ### the product's row -/
abbrev prodRow (cs ds : List Int) : List Int := trim (coefs (cs.length + ds.length) fun n => val cs n * val ds n)
theorem prod_val (cs ds : List Int) (n : Nat) : val (prodRow cs ds) n = val cs n * val ds n := by
  show val (trim _) n = _
  rw [val_trim, val_mul]
theorem prod_comm (cs ds : List Int) : prodRow ds cs = prodRow cs ds := by
  show trim (coefs (ds.length + cs.length) fun n => val ds n * val cs n) = trim (coefs (cs.length + ds.length) fun n => val cs n * val ds n)
  rw [Nat.add_comm, show (fun n => val ds n * val cs n) = fun n => val cs n * val ds n from funext fun n => Int.mul_comm _ _]
theorem trim_zero : ∀ (N : Nat) (xs : List Int), xs.length = N → (∀ x ∈ xs, x = 0) → trimN N xs = []
  | 0, xs, h, _ => List.length_eq_zero_iff.mp h
  | N + 1, xs, h, hz => by
    have hN : N < xs.length := by omega
    rw [trimN, if_pos (by rw [List.getElem?_eq_getElem hN, hz _ (List.getElem_mem hN)])]
    exact trim_zero N (xs.take N) (by rw [List.length_take]; omega) fun x hx => hz x (List.mem_of_mem_take hx)
theorem coefs_zero : ∀ L : Nat, ∀ x ∈ coefs L (fun _ => 0), x = 0
  | 0, x, h => by simp [coefs] at h
  | L + 1, x, h => by
    rw [coefs] at h
    rcases List.mem_cons.mp h with e | h
    · exact e
    · rw [show del (fun _ => 0) = fun _ => 0 from by funext n; rfl] at h
      exact coefs_zero L x h
theorem prod_nil_l (ds : List Int) : (prodRow [] ds).length = 0 := by
  show (trim (coefs _ fun n => val [] n * val ds n)).length = 0
  rw [mul_nil_l]
  unfold trim
  rw [trim_zero _ _ rfl (coefs_zero _)]
  rfl
theorem prod_nil_r (cs : List Int) : (prodRow cs []).length = 0 := by
  rw [← prod_comm]
  exact prod_nil_l cs
theorem prod_len {cs ds : List Int} (oc : RowOk cs) (od : RowOk ds) (hc : cs ≠ []) (hd : ds ≠ []) : (prodRow cs ds).length + 1 = cs.length + ds.length := by
  rcases List.eq_nil_or_concat cs with e | ⟨l, x, e⟩
  · exact absurd e hc
  · rcases List.eq_nil_or_concat ds with e2 | ⟨m, y, e2⟩
    · exact absurd e2 hd
    · rw [List.concat_eq_append] at e e2
      subst e e2
      have x0 := rowOk_snoc.mp oc
      have y0 := rowOk_snoc.mp od
      have tp := mul_top (l.length + m.length) l m x y rfl
      have dg := mul_deg (l.length + m.length + 1) (l ++ [x]) (m ++ [y]) (by rw [List.length_append, List.length_append, List.length_singleton, List.length_singleton]; omega)
      have ll : (l ++ [x]).length + (m ++ [y]).length = l.length + m.length + 2 := by rw [List.length_append, List.length_append, List.length_singleton, List.length_singleton]; omega
      have q := trim_at _ (coefs ((l ++ [x]).length + (m ++ [y]).length) fun n => val (l ++ [x]) n * val (m ++ [y]) n) (l.length + m.length) ((top l.length m.length : Nat) * x * y) rfl (by rw [coefs_get _ _ _ (by omega), tp])
        (Int.mul_ne_zero (Int.mul_ne_zero (by have := top_pos l.length m.length; omega) x0) y0) (fun j z hj hz => by
          have jl : j < (l ++ [x]).length + (m ++ [y]).length := by
            have := (List.getElem?_eq_some_iff.mp hz).1
            rw [coefs_length] at this
            exact this
          rw [coefs_get _ _ _ jl] at hz
          have j1 : j = l.length + m.length + 1 := by omega
          rw [j1, dg] at hz
          exact (Option.some.inj hz).symm)
      show (trim _).length + 1 = _
      rw [ll]
      rw [ll] at q
      unfold trim
      rw [q]
theorem mem_upto {L : Nat} {h : Nat → Int} {x : Int} (hx : x ∈ upto L h) : ∃ i, i < L ∧ x = h i := by
  have e : upto L h = uptoFrom h 0 L := by
    rw [upto_from]
    congr 1
    funext i
    rw [Nat.zero_add]
  rw [e] at hx
  obtain ⟨i, _, h2, h3⟩ := mem_uptoFrom _ _ _ x hx
  exact ⟨i, by omega, h3⟩
theorem prod_small {cs ds : List Int} (hc : ∀ x ∈ cs, x.natAbs < 2 ^ 260) (hd : ∀ x ∈ ds, x.natAbs < 2 ^ 260) (lc : cs.length ≤ 13) (ld : ds.length ≤ 13) : ∀ x ∈ prodRow cs ds, x.natAbs < 2 ^ 770 := by
  intro x hx
  have h1 := mem_trim hx
  rw [← diffs_upto] at h1
  have h2 := diffsN_lt (A := 740) _ _ 0 (fun z hz => by
    obtain ⟨i, hi, rfl⟩ := mem_upto hz
    have ib : i < 2 ^ 8 := Nat.lt_of_le_of_lt (show i ≤ 200 by omega) (by decide)
    have a := val_lt2 (xs := cs) (n := i) (A := 260) (B := 8) (M := 13) ib hc lc (by decide)
    have b := val_lt2 (xs := ds) (n := i) (A := 260) (B := 8) (M := 13) ib hd ld (by decide)
    rw [Int.natAbs_mul, show (2 : Nat) ^ (740 + 0) = 2 ^ (260 + 8 * 13 + 6) * 2 ^ (260 + 8 * 13 + 6) by rw [← Nat.pow_add]]
    exact Nat.mul_lt_mul'' a b) x h1
  rw [upto_length] at h2
  exact Nat.lt_of_lt_of_le h2 (Nat.pow_le_pow_right (by decide) (by omega))
theorem prod_short {cs ds : List Int} : (prodRow cs ds).length ≤ cs.length + ds.length := by
  have h := len_trim (coefs (cs.length + ds.length) fun n => val cs n * val ds n)
  rw [coefs_length] at h
  exact h
/-! ### all the counts -/
theorem big_val {xs : List Int} {t : Nat} (hx : ∀ x ∈ xs, x.natAbs < 2 ^ 260) (hl : xs.length ≤ 13) (ht : t < 2 ^ 994) : (val xs t).natAbs < 2 ^ 13188 := val_lt2 (A := 260) (B := 994) (M := 13) ht hx hl (by decide)
theorem p4300 : (2 : Nat) ^ 13188 < 10 ^ 4300 := by decide +kernel
theorem f_neSame {x : Int} : fNe (.int x) (.int x) = some (.bl false) := by rw [f_neI, decide_eq_true rfl]; rfl
theorem counts_loop {s0 s1 s2 s8 : Sl} {cs ds : List Int} (oc : RowOk cs) (od : RowOk ds) (hc : ∀ x ∈ cs, x.natAbs < 2 ^ 260) (hd : ∀ x ∈ ds, x.natAbs < 2 ^ 260) (lc : cs.length ≤ 13) (ld : ds.length ≤ 13) : ∀ (ts : List Nat) (s9 s10 s11 : Sl), Pl s9 → Pl s10 → Pl s11 → (∀ t ∈ ts, t < 2 ^ 994) → ∃ s9' s10' s11', Pl s9' ∧
    dLoop (gNm 9) (dSeq (dParEE 10 11 (dCallR F_row_value (dCons (dSee 5) (dCons (dVar 9) dNil))) (dCall F_row_value (dRevA (dCons (dVar 9) (dCons (dVar 6) dNil))))) (dSeq (dIf (dOrT (dTst (dOp fNe (dUn fRepr (dVar 10)) (dUn fRepr (dCall F__law_value (dCons (dVar 3) (dCons (dVar 9) dNil)))))) (dTst (dOp fNe (dUn fRepr (dVar 11)) (dUn fRepr (dCall F__law_value (dCons (dVar 4) (dCons (dVar 9) dNil))))))) (dRet (dC (.bl false))) dPass) (dIf (dTst (dOp fNe (dCallR F__law_value (dCons (dSee 7) (dCons (dVar 9) dNil))) (dOp fMul (dVar 10) (dVar 11)))) (dRet (dC (.bl false))) dPass))) (LI (ts.map fun t : Nat => (t : Int)))
      [s0, s1, s2, .dat (L cs), .dat (L ds), .own false (LI cs), .dat (L ds), .own false (LI (prodRow cs ds)), s8, s9, s10, s11] = .nx [s0, s1, s2, .dat (L cs), .dat (L ds), .own false (LI cs), .dat (L ds), .own false (LI (prodRow cs ds)), s8, s9', s10', s11']
  | [], s9, s10, s11, p9, _, _, _ => ⟨s9, s10, s11, p9, rfl⟩
  | t :: r, s9, s10, s11, p9, p10, p11, ht => by
    have tb := ht t List.mem_cons_self
    obtain ⟨s9', s10', s11', q9, ih⟩ := counts_loop (s0 := s0) (s1 := s1) (s2 := s2) (s8 := s8) oc od hc hd lc ld r (.dat (.int (t : Nat))) (.dat (.int (val cs t))) (.dat (.int (val ds t))) pl_dat pl_dat pl_dat fun u hu => ht u (List.mem_cons_of_mem _ hu)
    have v1 := row_value_ok (xs := cs) (n := t) (A := 260) (B := 994) oc (by decide) (by decide) tb hc (by omega) (by decide)
    have v2 := row_value_ok (xs := ds) (n := t) (A := 260) (B := 994) od (by decide) (by decide) tb hd (by omega) (by decide)
    have w1 := value_ok (xs := cs) (n := t) (A := 260) (B := 994) (by decide) (by decide) (by decide) (by decide) tb hc (by omega)
    have w2 := value_ok (xs := ds) (n := t) (A := 260) (B := 994) (by decide) (by decide) (by decide) (by decide) tb hd (by omega)
    have ps : (prodRow cs ds).length ≤ 26 := Nat.le_trans prod_short (by omega)
    have w3 := value_ok (xs := prodRow cs ds) (n := t) (A := 770) (B := 994) (by decide) (by decide) (by decide) (by decide) tb (prod_small hc hd lc ld) (by omega)
    rw [prod_val] at w3
    obtain ⟨t1, r1, o1⟩ := repr_int (Nat.lt_trans (big_val hc lc tb) p4300)
    obtain ⟨t2, r2, o2⟩ := repr_int (Nat.lt_trans (big_val hd ld tb) p4300)
    have mm : CMulW (val cs t) (val ds t) := wide_mul (a := 13188) (b := 13188) (big_val hc lc tb) (big_val hd ld tb) (by decide) (by decide) (by decide)
    refine ⟨s9', s10', s11', q9, ?_⟩
    refine loop_cons (e1 := [s0, s1, s2, .dat (L cs), .dat (L ds), .own false (LI cs), .dat (L ds), .own false (LI (prodRow cs ds)), s8, .dat (.int (t : Nat)), s10, s11]) (e2 := [s0, s1, s2, .dat (L cs), .dat (L ds), .own false (LI cs), .dat (L ds), .own false (LI (prodRow cs ds)), s8, .dat (.int (t : Nat)), .dat (.int (val cs t)), .dat (.int (val ds t))]) (put_pl rfl p9) ?_ ih
    refine q_seq (e1 := [s0, s1, s2, .dat (L cs), .dat (L ds), .own false (LI cs), .dat (L ds), .own false (LI (prodRow cs ds)), s8, .dat (.int (t : Nat)), .dat (.int (val cs t)), .dat (.int (val ds t))]) (q_parEE (z_callR (z_cons (z_see rfl) (z_cons (z_var rfl) z_nil)) v1 rfl) (z_call (z_rev (z_cons (z_var rfl) (z_cons (z_var rfl) z_nil)) rfl) v2) ?_) (q_seq (q_if (z_orT (z_tst (z_op (z_un (z_var rfl) r1) (z_un (z_call (z_cons (z_var rfl) (z_cons (z_var rfl) z_nil)) w1) r1) (f_neS o1))) (ite_f rfl (z_tst (z_op (z_un (z_var rfl) r2) (z_un (z_call (z_cons (z_var rfl) (z_cons (z_var rfl) z_nil)) w2) r2) (f_neS o2))))) (ite_f rfl q_pass)) (q_if (z_tst (z_op (z_callR (z_cons (z_see rfl) (z_cons (z_var rfl) z_nil)) w3 rfl) (z_op (z_var rfl) (z_var rfl) (f_mul mm)) f_neSame)) (ite_f rfl q_pass)))
    show (put 10 _ _).bind _ = _
    rw [put_pl rfl p10]
    show put 11 _ _ = _
    rw [put_pl rfl p11]
    rfl
end T66
set_option Elab.async false
set_option linter.all false
set_option maxRecDepth 100000
set_option maxHeartbeats 400000
set_option exponentiation.threshold 20000
namespace T66
open PySem PySem.Spec PyProof.Rows L2 DL MN
theorem f_neLs {xs : List Int} : fNe (L xs) (L xs) = some (.bl false) := by rw [f_neL, decide_eq_true rfl]; rfl
theorem right_ok {g : List D} {n : Nat} (hg : GenOk n g) (hn : n < 2 ^ 30) : ∃ g', F__law_right g [] = .ok (.bl true) g' := by
  obtain ⟨xs, g1, hx, lx, sx, hg1⟩ := numbers_ok hg (by omega)
  obtain ⟨ys, g2, hy, ly, sy, hg2⟩ := numbers_ok hg1 (by omega)
  have m1 := made_right_ok lx sx
  have m2 := made_right_ok ly sy
  have d1 := differences_ok (xs := xs) (by omega)
  have d2 := differences_ok (xs := ys) (by omega)
  have oc : RowOk (trim (diffs xs)) := ok_trim _
  have od : RowOk (trim (diffs ys)) := ok_trim _
  have lc : (trim (diffs xs)).length ≤ 13 := Nat.le_trans (len_trim _) (by rw [show (diffs xs).length = xs.length from diffs_length _ _ rfl]; omega)
  have ld : (trim (diffs ys)).length ≤ 13 := Nat.le_trans (len_trim _) (by rw [show (diffs ys).length = ys.length from diffs_length _ _ rfl]; omega)
  have hc : ∀ x ∈ trim (diffs xs), x.natAbs < 2 ^ 260 := fun x h => Nat.lt_of_lt_of_le (low_small sx lx x h) (by decide)
  have hd : ∀ x ∈ trim (diffs ys), x.natAbs < 2 ^ 260 := fun x h => Nat.lt_of_lt_of_le (low_small sy ly x h) (by decide)
  generalize trim (diffs xs) = cs at *
  generalize trim (diffs ys) = ds at *
  have hp : F_row_product [L cs, L ds] = .nw (LI (prodRow cs ds)) := row_product_ok (A := 260) (by decide) (by decide) hc hd (by omega) (by omega) oc od
  have hp2 : F_row_product [L ds, L cs] = .nw (LI (prodRow cs ds)) := by
    rw [← prod_comm]
    exact row_product_ok (A := 260) (by decide) (by decide) hd hc (by omega) (by omega) od oc
  have ir : F__law_is_row [L (prodRow cs ds)] = .ok (.bl true) := is_row_ok (ok_trim _)
  have ps : (prodRow cs ds).length ≤ 26 := Nat.le_trans prod_short (by omega)
  obtain ⟨ts, g3, ht, tb, hg3⟩ := counts_ok hg2 (by omega)
  -- how long the product's row must be
  have due : dIfE (dOrT (dTst (dOp fEq (dVar 3) (dOfN (dLstE dNil)))) (dTst (dOp fEq (dVar 4) (dOfN (dLstE dNil))))) (dC (.int 0)) (dOp fSub (dOp fAdd (dBi bLen (dCons (dVar 3) dNil)) (dBi bLen (dCons (dVar 4) dNil))) (dC (.int 1)))
      [.own true g2, .dat (L xs), .dat (L ys), .dat (L cs), .dat (L ds), .own false (LI cs), .dat (L ds), .own false (LI (prodRow cs ds)), .un, .un, .un, .un] = .ok (.int ((prodRow cs ds).length : Nat)) [.own true g2, .dat (L xs), .dat (L ys), .dat (L cs), .dat (L ds), .own false (LI cs), .dat (L ds), .own false (LI (prodRow cs ds)), .un, .un, .un, .un] := by
    have t1 : ∀ {e : Ev}, e[(3 : Nat)]? = some (.dat (L cs)) → dTst (dOp fEq (dVar 3) (dOfN (dLstE dNil))) e = .ok (decide (cs = [])) e := fun h => z_tst (z_op (z_var h) (z_ofN (z_lst z_nil (by decide))) (f_eqL (xs := cs) (ys := [])))
    have t2 : ∀ {e : Ev}, e[(4 : Nat)]? = some (.dat (L ds)) → dTst (dOp fEq (dVar 4) (dOfN (dLstE dNil))) e = .ok (decide (ds = [])) e := fun h => z_tst (z_op (z_var h) (z_ofN (z_lst z_nil (by decide))) (f_eqL (xs := ds) (ys := [])))
    by_cases h1 : cs = []
    · have e0 : (prodRow cs ds).length = 0 := by rw [h1]; exact prod_nil_l ds
      rw [e0]
      exact z_ifE (z_orT (t1 rfl) (ite_t (decide_eq_true h1) rfl)) (ite_t rfl z_c)
    · by_cases h2 : ds = []
      · have e0 : (prodRow cs ds).length = 0 := by rw [h2]; exact prod_nil_r cs
        rw [e0]
        exact z_ifE (z_orT (t1 rfl) (ite_f (decide_eq_false h1) (t2 rfl))) (ite_t (decide_eq_true h2) z_c)
      · have e0 := prod_len oc od h1 h2
        have e1 : ((((LI cs).length : Nat) : Int) + (((LI ds).length : Nat) : Int) - 1) = ((prodRow cs ds).length : Nat) := by rw [List.length_map, List.length_map]; omega
        refine z_ifE (z_orT (t1 rfl) (ite_f (decide_eq_false h1) (t2 rfl))) (ite_f (decide_eq_false h2) ?_)
        rw [← e1]
        exact z_op (z_op (z_bi (z_cons (z_var rfl) z_nil) f_len) (z_bi (z_cons (z_var rfl) z_nil) f_len) f_add) z_c f_sub
  have lenEq : fNe (.int (((LI (prodRow cs ds)).length : Nat) : Int)) (.int ((prodRow cs ds).length : Nat)) = some (.bl false) := by rw [List.length_map]; exact f_neSame
  obtain ⟨s9, s10, s11, q9, lp⟩ := counts_loop (s0 := .own true g3) (s1 := .dat (L xs)) (s2 := .dat (L ys)) (s8 := .dat (.int ((prodRow cs ds).length : Nat))) oc od hc hd lc ld ts .un .un .un pl_un pl_un pl_un tb
  -- one further count where the row is short
  have more : ∃ g4 s9', GenOk (n + 7000) g4 ∧ dIf (dTst (dOp fLe (dBi bLen (dCons (dSee 7) dNil)) (dC (.int 13)))) (dSeq (dSet 9 (dCallI 0 F__law_random (dCons (dOp fPow (dC (.int 10)) (dC (.int 29))) dNil))) (dIf (dTst (dOp fNe (dCall F_row_value (dCons (dOfN (dListSee 7)) (dCons (dVar 9) dNil))) (dOp fMul (dCall F__law_value (dCons (dVar 3) (dCons (dVar 9) dNil))) (dCall F__law_value (dCons (dVar 4) (dCons (dVar 9) dNil)))))) (dRet (dC (.bl false))) dPass)) dPass
      [.own true g3, .dat (L xs), .dat (L ys), .dat (L cs), .dat (L ds), .own false (LI cs), .dat (L ds), .own false (LI (prodRow cs ds)), .dat (.int ((prodRow cs ds).length : Nat)), s9, s10, s11] = .nx [.own true g4, .dat (L xs), .dat (L ys), .dat (L cs), .dat (L ds), .own false (LI cs), .dat (L ds), .own false (LI (prodRow cs ds)), .dat (.int ((prodRow cs ds).length : Nat)), s9', s10, s11] := by
    by_cases h : (((LI (prodRow cs ds)).length : Nat) : Int) ≤ 13
    · obtain ⟨r, g4, hr, r0, r1, hg4⟩ := random_ok (b := 10 ^ 29) hg3 (by omega) (by decide) (by decide)
      have rb : r.toNat < 2 ^ 994 := nat_lt r0 (by have := near_lt; omega)
      have v := row_value_ok (xs := prodRow cs ds) (n := r.toNat) (A := 770) (B := 994) (ok_trim _) (by decide) (by decide) rb (prod_small hc hd lc ld) (by omega) (by decide)
      have w1 := value_ok (xs := cs) (n := r.toNat) (A := 260) (B := 994) (by decide) (by decide) (by decide) (by decide) rb hc (by omega)
      have w2 := value_ok (xs := ds) (n := r.toNat) (A := 260) (B := 994) (by decide) (by decide) (by decide) (by decide) rb hd (by omega)
      have mm : CMulW (val cs r.toNat) (val ds r.toNat) := wide_mul (a := 13188) (b := 13188) (big_val hc lc rb) (big_val hd ld rb) (by decide) (by decide) (by decide)
      rw [prod_val] at v
      rw [Int.toNat_of_nonneg r0] at v w1 w2
      refine ⟨g4, .dat (.int r), hg4.mono (by omega), q_if (z_tst (z_op (z_bi (z_cons (z_see rfl) z_nil) f_len) z_c f_le)) (ite_t (decide_eq_true h) (q_seq (e1 := [.own true g4, .dat (L xs), .dat (L ys), .dat (L cs), .dat (L ds), .own false (LI cs), .dat (L ds), .own false (LI (prodRow cs ds)), .dat (.int ((prodRow cs ds).length : Nat)), .dat (.int r), s10, s11]) (q_set (z_callI (o := true) (o' := true) rfl (z_cons (z_op z_c z_c p29) z_nil) rfl hr rfl) ?_) (q_if (z_tst (z_op (z_call (z_cons (z_ofN (z_listSee rfl)) (z_cons (z_var rfl) z_nil)) v) (z_op (z_call (z_cons (z_var rfl) (z_cons (z_var rfl) z_nil)) w1) (z_call (z_cons (z_var rfl) (z_cons (z_var rfl) z_nil)) w2) (f_mul mm)) f_neSame)) (ite_f rfl q_pass))))⟩
      rw [put_pl (s := s9) rfl q9]
      rfl
    · exact ⟨g3, s9, hg3.mono (by omega), q_if (z_tst (z_op (z_bi (z_cons (z_see rfl) z_nil) f_len) z_c f_le)) (ite_f (decide_eq_false h) q_pass)⟩
  obtain ⟨g4, s9', hg4, more⟩ := more
  obtain ⟨g5, hn1, hg5⟩ := near_right_ok hg4 (by omega) oc lc hc
  obtain ⟨g6, hn2, hg6⟩ := near_right_ok hg5 (by omega) od ld hd
  have cut : DL.cutD (LI (prodRow cs ds) ++ [.int 5]) none (some ((((LI (prodRow cs ds) ++ [D.int 5]).length : Nat) : Int) - 1)) = LI (prodRow cs ds) := by
    rw [LI_snoc, List.length_map, List.length_append, List.length_singleton, show (((prodRow cs ds).length + 1 : Nat) : Int) - 1 = ((prodRow cs ds).length : Nat) by omega, cut_to _ (by rw [List.length_append]; omega), List.take_left]
  have ll : (LI (prodRow cs ds)).length < 1000000 := by rw [List.length_map]; omega
  have lcl : (LI cs).length < 1000000 := by rw [List.length_map]; omega
  refine ⟨g6, i_rt (q_seq (q_parEE (z_callIW (o := true) (o' := true) rfl z_nil rfl hx rfl) (z_callIW (o := true) (o' := true) rfl z_nil rfl hy rfl) rfl) (q_seq (q_if (z_orT (z_notT (z_tst (z_call (z_cons (z_var rfl) z_nil) m1))) (ite_f rfl (z_notT (z_tst (z_call (z_cons (z_var rfl) z_nil) m2))))) (ite_f rfl q_pass)) (q_seq (q_parEE (z_callW (z_cons (z_var rfl) z_nil) d1) (z_callW (z_cons (z_var rfl) z_nil) d2) rfl) (q_seq (q_parNE (z_listOf (z_cons (z_var rfl) z_nil)) (z_ofN (z_listOf (z_cons (z_var rfl) z_nil))) rfl) (q_seq (q_new (z_callRN (z_cons (z_see rfl) (z_cons (z_var rfl) z_nil)) hp (sc_LI _)) rfl) (q_seq (q_if (z_orT (z_tst (z_op (z_see rfl) (z_var rfl) f_neLs)) (ite_f rfl (z_orT (z_tst (z_op (z_var rfl) (z_var rfl) f_neLs)) (ite_f rfl (z_notT (z_tst (z_callR (z_cons (z_see rfl) z_nil) ir rfl))))))) (ite_f rfl q_pass)) (q_seq (q_set due rfl) (q_seq (q_if (z_orT (z_tst (z_op (z_bi (z_cons (z_see rfl) z_nil) f_len) (z_var rfl) lenEq)) (ite_f rfl (z_tst (z_op (z_callW (z_rev (z_cons (z_ofN (z_listOf (z_cons (z_var rfl) z_nil))) (z_cons (z_ofN (z_listOf (z_cons (z_var rfl) z_nil))) z_nil)) rfl) hp2) (z_see rfl) f_neLs)))) (ite_f rfl q_pass)) (q_seq (q_for (z_items (z_callIW (o := true) (o' := true) rfl z_nil rfl ht rfl)) lp) (q_seq more (q_seq (q_append (o := false) (o' := false) rfl z_c rfl ll rfl) (q_seq (q_append (o := false) (o' := false) rfl z_c rfl lcl rfl) (q_seq (q_if (z_tst (z_op (z_callW (z_cons (z_ofN (z_listOf (z_cons (z_var rfl) z_nil))) (z_cons (z_ofN (z_listOf (z_cons (z_var rfl) z_nil))) z_nil)) hp) (z_ofN (z_slL (z_fix rfl rfl) z_noP (z_part (z_op (z_bi (z_cons (z_var rfl) z_nil) f_len) z_c f_sub)))) ?_)) (ite_f rfl q_pass)) (q_ret (z_and1 (z_callI (o := true) (o' := true) rfl (z_cons (z_var rfl) z_nil) rfl hn1 rfl) (z_callI (o := true) (o' := true) rfl (z_cons (z_var rfl) z_nil) rfl hn2 rfl)))))))))))))))) rfl⟩
  rw [cut]
  exact f_neLs
theorem refused_ok : F__law_refused [] = .ok (.bl true) := by kernel_rfl
theorem turn_ok (ns : List Int) {i : Nat} (hi : i ≤ 2) (s1 : Sl) (r : List D) (p1 : Pl s1) {w : Rs} (h : dLoop (gNm 1) (dIf (dNotT (dTst (dCallT F__law_right (dCallN F__law_generator (dCons (dVar 0) (dCons (dVar 1) dNil))) dNil))) (dRet (dC (.bl false))) dPass) r [.dat (.fro (LI ns)), .dat (.int i)] = w) :
    dLoop (gNm 1) (dIf (dNotT (dTst (dCallT F__law_right (dCallN F__law_generator (dCons (dVar 0) (dCons (dVar 1) dNil))) dNil))) (dRet (dC (.bl false))) dPass) (.int i :: r) [.dat (.fro (LI ns)), s1] = w := by
  obtain ⟨g, h1, h2⟩ := generator_ok ns hi
  obtain ⟨g', h3⟩ := right_ok h2 (by decide)
  exact loop_cons (e1 := [.dat (.fro (LI ns)), .dat (.int i)]) (put_pl rfl p1) (q_if (z_notT (z_tst (z_callT (z_callN (z_cons (z_var rfl) (z_cons (z_var rfl) z_nil)) h1) z_nil h3))) (ite_f rfl q_pass)) h
theorem law_ok (ns : List Int) : F_law [.fro (ns.map .int)] = .ok (.bl true) :=
  p_rt (q_seq (q_for (z_rng1 (z_cons z_c z_nil) ⟨by decide, by decide⟩) (turn_ok ns (i := 0) (by decide) .un _ pl_un (turn_ok ns (i := 1) (by decide) _ _ pl_dat (turn_ok ns (i := 2) (by decide) _ _ pl_dat loop_nil)))) (q_ret (z_call z_nil refused_ok)))
end T66
set_option Elab.async false
set_option linter.all false
set_option maxRecDepth 100000
set_option maxHeartbeats 0
namespace T66
open PySem PySem.Spec PyProof.Rows L2 DL
abbrev i_InvalidNumber : Stmt := match topS 2 with | .ClassDef _ _ _ b _ _ _ _ _ _ _ => b.getD 0 (.Pass ⟨0, 0, 0, 0⟩) | s => s
def Z_InvalidNumber : SupD := { name := "__init__", qual := "InvalidNumber.__init__", params := defArgs i_InvalidNumber, scope := defScope i_InvalidNumber, self := "self", arg := "value", fld := "value", p0 := ⟨7, 8, 7, 13⟩, p1 := ⟨7, 8, 7, 15⟩, p2 := ⟨7, 8, 7, 24⟩, p3 := ⟨7, 25, 7, 30⟩, p4 := ⟨7, 8, 7, 31⟩, p5 := ⟨7, 8, 7, 31⟩, p6 := ⟨8, 8, 8, 12⟩, p7 := ⟨8, 8, 8, 18⟩, p8 := ⟨8, 21, 8, 26⟩, p9 := ⟨8, 8, 8, 26⟩ }
theorem zt_InvalidNumber : SupT PySem.Challenge.pw_skipcounts_k66_rows_of_binomials Z_InvalidNumber where
  ok := {
    cell := by decide +kernel
    ks := rfl
    kc := rfl
    kself := rfl
    karg := rfl
    ne := by decide
    k := rfl
    co := rfl
    gen := rfl
    hd := ⟨_, rfl, rfl⟩
    dbg := ⟨by decide, by decide⟩
    ev := ⟨_, fun _ _ _ _ => rfl⟩
    int := fun _ _ _ _ => rfl
    sw1 := fun _ _ _ _ => rfl
    sw2 := fun _ _ _ _ => rfl }
  bnd := fun _ _ _ _ _ _ _ _ _ _ _ => ⟨_, rfl, rfl⟩
  top := by decide +kernel
abbrev i_InvalidList : Stmt := match topS 3 with | .ClassDef _ _ _ b _ _ _ _ _ _ _ => b.getD 0 (.Pass ⟨0, 0, 0, 0⟩) | s => s
def Z_InvalidList : SupD := { name := "__init__", qual := "InvalidList.__init__", params := defArgs i_InvalidList, scope := defScope i_InvalidList, self := "self", arg := "value", fld := "value", p0 := ⟨12, 8, 12, 13⟩, p1 := ⟨12, 8, 12, 15⟩, p2 := ⟨12, 8, 12, 24⟩, p3 := ⟨12, 25, 12, 30⟩, p4 := ⟨12, 8, 12, 31⟩, p5 := ⟨12, 8, 12, 31⟩, p6 := ⟨13, 8, 13, 12⟩, p7 := ⟨13, 8, 13, 18⟩, p8 := ⟨13, 21, 13, 26⟩, p9 := ⟨13, 8, 13, 26⟩ }
theorem zt_InvalidList : SupT PySem.Challenge.pw_skipcounts_k66_rows_of_binomials Z_InvalidList where
  ok := {
    cell := by decide +kernel
    ks := rfl
    kc := rfl
    kself := rfl
    karg := rfl
    ne := by decide
    k := rfl
    co := rfl
    gen := rfl
    hd := ⟨_, rfl, rfl⟩
    dbg := ⟨by decide, by decide⟩
    ev := ⟨_, fun _ _ _ _ => rfl⟩
    int := fun _ _ _ _ => rfl
    sw1 := fun _ _ _ _ => rfl
    sw2 := fun _ _ _ _ => rfl }
  bnd := fun _ _ _ _ _ _ _ _ _ _ _ => ⟨_, rfl, rfl⟩
  top := by decide +kernel
def D_is_whole : He.DefD := ⟨("is_whole", none), "is_whole", "is_whole", defArgs s_is_whole, defBody s_is_whole, defScope s_is_whole, [], []⟩
def D_is_between : He.DefD := ⟨("is_between", none), "is_between", "is_between", defArgs s_is_between, defBody s_is_between, defScope s_is_between, [], []⟩
def D_check_number : He.DefD := ⟨("check_number", none), "check_number", "check_number", defArgs s_check_number, defBody s_check_number, defScope s_check_number, [], []⟩
def D_is_binomials : He.DefD := ⟨("is_binomials", none), "is_binomials", "is_binomials", defArgs s_is_binomials, defBody s_is_binomials, defScope s_is_binomials, [], []⟩
def D_check_row : He.DefD := ⟨("check_row", none), "check_row", "check_row", defArgs s_check_row, defBody s_check_row, defScope s_check_row, [], []⟩
def D_row_at : He.DefD := ⟨("row_at", none), "row_at", "row_at", defArgs s_row_at, defBody s_row_at, defScope s_row_at, [], []⟩
def D_row_value : He.DefD := ⟨("row_value", none), "row_value", "row_value", defArgs s_row_value, defBody s_row_value, defScope s_row_value, [], []⟩
def D_trimmed : He.DefD := ⟨("trimmed", none), "trimmed", "trimmed", defArgs s_trimmed, defBody s_trimmed, defScope s_trimmed, [], []⟩
def D_binomial_row : He.DefD := ⟨("binomial_row", none), "binomial_row", "binomial_row", defArgs s_binomial_row, defBody s_binomial_row, defScope s_binomial_row, [], []⟩
def D_row_product : He.DefD := ⟨("row_product", none), "row_product", "row_product", defArgs s_row_product, defBody s_row_product, defScope s_row_product, [], []⟩
def D__law_hash : He.DefD := ⟨("_law_hash", none), "_law_hash", "_law_hash", defArgs s__law_hash, defBody s__law_hash, defScope s__law_hash, [], []⟩
def D__law_random : He.DefD := ⟨("_law_random", none), "_law_random", "_law_random", defArgs s__law_random, defBody s__law_random, defScope s__law_random, [], []⟩
def D__law_cell : He.DefD := ⟨("_law_cell", none), "_law_cell", "_law_cell", defArgs s__law_cell, defBody s__law_cell, defScope s__law_cell, [], []⟩
def D__law_generator : He.DefD := ⟨("_law_generator", none), "_law_generator", "_law_generator", defArgs s__law_generator, defBody s__law_generator, defScope s__law_generator, [], []⟩
def D__law_choose : He.DefD := ⟨("_law_choose", none), "_law_choose", "_law_choose", defArgs s__law_choose, defBody s__law_choose, defScope s__law_choose, [], []⟩
def D__law_value : He.DefD := ⟨("_law_value", none), "_law_value", "_law_value", defArgs s__law_value, defBody s__law_value, defScope s__law_value, [], []⟩
def D__law_number : He.DefD := ⟨("_law_number", none), "_law_number", "_law_number", defArgs s__law_number, defBody s__law_number, defScope s__law_number, [], []⟩
def D__law_numbers : He.DefD := ⟨("_law_numbers", none), "_law_numbers", "_law_numbers", defArgs s__law_numbers, defBody s__law_numbers, defScope s__law_numbers, [], []⟩
def D__law_counts : He.DefD := ⟨("_law_counts", none), "_law_counts", "_law_counts", defArgs s__law_counts, defBody s__law_counts, defScope s__law_counts, [], []⟩
def D__law_differences : He.DefD := ⟨("_law_differences", none), "_law_differences", "_law_differences", defArgs s__law_differences, defBody s__law_differences, defScope s__law_differences, [], []⟩
def D__law_is_row : He.DefD := ⟨("_law_is_row", none), "_law_is_row", "_law_is_row", defArgs s__law_is_row, defBody s__law_is_row, defScope s__law_is_row, [], []⟩
def D__law_made_right : He.DefD := ⟨("_law_made_right", none), "_law_made_right", "_law_made_right", defArgs s__law_made_right, defBody s__law_made_right, defScope s__law_made_right, [], []⟩
def D__law_near_right : He.DefD := ⟨("_law_near_right", none), "_law_near_right", "_law_near_right", defArgs s__law_near_right, defBody s__law_near_right, defScope s__law_near_right, [], []⟩
def D__law_right : He.DefD := ⟨("_law_right", none), "_law_right", "_law_right", defArgs s__law_right, defBody s__law_right, defScope s__law_right, [], []⟩
def D__law_caught : He.DefD := ⟨("_law_caught", none), "_law_caught", "_law_caught", defArgs s__law_caught, defBody s__law_caught, defScope s__law_caught, [], []⟩
def D__law_refused : He.DefD := ⟨("_law_refused", none), "_law_refused", "_law_refused", defArgs s__law_refused, defBody s__law_refused, defScope s__law_refused, [], []⟩
def D_law : He.DefD := ⟨("law", none), "law", "law", defArgs s_law, defBody s_law, defScope s_law, [], []⟩
def fn0 : List He.DefD := [D_is_whole, D_is_between, D_check_number, D_is_binomials, D_check_row, D_row_at, D_row_value, D_trimmed, D_binomial_row, D_row_product, D__law_hash, D__law_random, D__law_cell, D__law_generator, D__law_choose, D__law_value, D__law_number, D__law_numbers, D__law_counts, D__law_differences, D__law_is_row, D__law_made_right, D__law_near_right, D__law_right, D__law_caught, D__law_refused, D_law]
def fn : List He.DefD := fn0
def fa0 : List He.Fa := [.glo "is_whole", .glo "is_between", .glo "check_number", .glo "is_binomials", .glo "check_row", .glo "row_at", .glo "row_value", .glo "trimmed", .glo "binomial_row", .glo "row_product", .glo "_law_hash", .glo "_law_random", .glo "_law_cell", .glo "_law_generator", .glo "_law_choose", .glo "_law_value", .glo "_law_number", .glo "_law_numbers", .glo "_law_counts", .glo "_law_differences", .glo "_law_is_row", .glo "_law_made_right", .glo "_law_near_right", .glo "_law_right", .glo "_law_caught", .glo "_law_refused", .glo "law", .glo "SkipError", .glo "InvalidNumber", .glo "InvalidList", .free "ValueError", .free "bool", .free "enumerate", .free "int", .free "isinstance"]
def fa1 : List He.Fa := [.free "len", .free "list", .free "max", .free "range", .free "repr", .free "sum", .free "super"]
def fa : List He.Fa := fa0 ++ fa1
def es : List (Str × SupD) := [("InvalidNumber", Z_InvalidNumber), ("InvalidList", Z_InvalidList)]
def exL (K : PySem.W.Frag) : List Bool := [supB PySem.Challenge.pw_skipcounts_k66_rows_of_binomials.main.file K "InvalidNumber" Z_InvalidNumber, supB PySem.Challenge.pw_skipcounts_k66_rows_of_binomials.main.file K "InvalidList" Z_InvalidList, decide (PySem.W.exmOne K (.ref (He.ga K "InvalidNumber")) (.ref (He.ga K "SkipError")) = some true), decide (PySem.W.exmOne K (.ref (He.ga K "InvalidList")) (.ref (He.ga K "SkipError")) = some true), isCB K (He.ga K "InvalidNumber"), isCB K (He.ga K "InvalidList"), decide (PySem.W.kitOne K (.ref (He.ga K "InvalidNumber")) (.type "ValueError") = some true), decide (PySem.W.kitOne K (.ref (He.ga K "InvalidList")) (.type "ValueError") = some true), decide (PySem.W.kitOne K (.ref (He.ga K "InvalidNumber")) (.ref (He.ga K "InvalidList")) = some false), decide (PySem.W.kitOne K (.ref (He.ga K "InvalidList")) (.ref (He.ga K "InvalidList")) = some true), decide (PySem.W.kitOne K (.ref (He.ga K "InvalidNumber")) (.ref (He.ga K "InvalidNumber")) = some true), decide (PySem.W.kitOne K (.ref (He.ga K "InvalidList")) (.ref (He.ga K "InvalidNumber")) = some false), xfB K (He.ga K "InvalidNumber"), decide (PySem.W.findIn K (.ref (He.ga K "InvalidNumber")) "value" = some none), xfB K (He.ga K "InvalidList"), decide (PySem.W.findIn K (.ref (He.ga K "InvalidList")) "value" = some none)]
def exK (K : PySem.W.Frag) : Bool := (exL K).all fun b => b
theorem txt_of {K : PySem.W.Frag} {mg : Str → Option Value} {h : Heap} (X : K.In h) (G : h.Ns mainGlobals mg) (c : SaysE fa fn es exK K) : Txt PySem.Challenge.pw_skipcounts_k66_rows_of_binomials K mg where
  n_ValueError := He.free_ok X G (c.d.fact 30 (f := .free "ValueError") rfl)
  n_bool := He.free_ok X G (c.d.fact 31 (f := .free "bool") rfl)
  n_enumerate := He.free_ok X G (c.d.fact 32 (f := .free "enumerate") rfl)
  n_int := He.free_ok X G (c.d.fact 33 (f := .free "int") rfl)
  n_isinstance := He.free_ok X G (c.d.fact 34 (f := .free "isinstance") rfl)
  n_len := He.free_ok X G (c.d.fact 35 (f := .free "len") rfl)
  n_list := He.free_ok X G (c.d.fact 36 (f := .free "list") rfl)
  n_max := He.free_ok X G (c.d.fact 37 (f := .free "max") rfl)
  n_range := He.free_ok X G (c.d.fact 38 (f := .free "range") rfl)
  n_repr := He.free_ok X G (c.d.fact 39 (f := .free "repr") rfl)
  n_sum := He.free_ok X G (c.d.fact 40 (f := .free "sum") rfl)
  g_SkipError := He.glo_ok X G (c.d.fact 27 (f := .glo "SkipError") rfl)
  g_InvalidList := He.glo_ok X G (c.d.fact 29 (f := .glo "InvalidList") rfl)
  g_InvalidNumber := He.glo_ok X G (c.d.fact 28 (f := .glo "InvalidNumber") rfl)
  x_InvalidNumber := ⟨⟨_, Z_InvalidNumber, zt_InvalidNumber.ok, supC_of (exB c.ex 0 (b := supB PySem.Challenge.pw_skipcounts_k66_rows_of_binomials.main.file K "InvalidNumber" Z_InvalidNumber) rfl) (c.s ("InvalidNumber", Z_InvalidNumber) (List.mem_of_getElem? (i := 0) rfl)) zt_InvalidNumber (He.free_ok X G (c.d.fact 41 (f := .free "super") rfl)), rfl⟩, He.glo_ok X G (c.d.fact 28 (f := .glo "InvalidNumber") rfl)⟩
  x_InvalidList := ⟨⟨_, Z_InvalidList, zt_InvalidList.ok, supC_of (exB c.ex 1 (b := supB PySem.Challenge.pw_skipcounts_k66_rows_of_binomials.main.file K "InvalidList" Z_InvalidList) rfl) (c.s ("InvalidList", Z_InvalidList) (List.mem_of_getElem? (i := 1) rfl)) zt_InvalidList (He.free_ok X G (c.d.fact 41 (f := .free "super") rfl)), rfl⟩, He.glo_ok X G (c.d.fact 29 (f := .glo "InvalidList") rfl)⟩
  e_SkipError := by
    intro c b hc
    unfold cx_SkipError at hc
    by_cases e0 : c = "InvalidNumber"
    · subst e0
      first | (rw [if_pos rfl] at hc; cases hc) | skip
      exact of_decide_eq_true (exB c.ex 2 (b := decide (PySem.W.exmOne K (.ref (He.ga K "InvalidNumber")) (.ref (He.ga K "SkipError")) = some true)) rfl)
    first | rw [if_neg e0] at hc | skip
    by_cases e1 : c = "InvalidList"
    · subst e1
      first | (rw [if_pos rfl] at hc; cases hc) | skip
      exact of_decide_eq_true (exB c.ex 3 (b := decide (PySem.W.exmOne K (.ref (He.ga K "InvalidList")) (.ref (He.ga K "SkipError")) = some true)) rfl)
    first | rw [if_neg e1] at hc | skip
    exact nomatch hc
  i_ValueError := by
    intro c b hc
    unfold cf_ValueError at hc
    by_cases e0 : c = "InvalidNumber"
    · subst e0
      first | (rw [if_pos rfl] at hc; cases hc) | skip
      exact ⟨isCB_ok (exB c.ex 4 (b := isCB K (He.ga K "InvalidNumber")) rfl), of_decide_eq_true (exB c.ex 6 (b := decide (PySem.W.kitOne K (.ref (He.ga K "InvalidNumber")) (.type "ValueError") = some true)) rfl)⟩
    first | rw [if_neg e0] at hc | skip
    by_cases e1 : c = "InvalidList"
    · subst e1
      first | (rw [if_pos rfl] at hc; cases hc) | skip
      exact ⟨isCB_ok (exB c.ex 5 (b := isCB K (He.ga K "InvalidList")) rfl), of_decide_eq_true (exB c.ex 7 (b := decide (PySem.W.kitOne K (.ref (He.ga K "InvalidList")) (.type "ValueError") = some true)) rfl)⟩
    first | rw [if_neg e1] at hc | skip
    exact nomatch hc
  i_InvalidList := by
    intro c b hc
    unfold cf_InvalidList at hc
    by_cases e0 : c = "InvalidNumber"
    · subst e0
      first | (rw [if_pos rfl] at hc; cases hc) | skip
      exact ⟨isCB_ok (exB c.ex 4 (b := isCB K (He.ga K "InvalidNumber")) rfl), of_decide_eq_true (exB c.ex 8 (b := decide (PySem.W.kitOne K (.ref (He.ga K "InvalidNumber")) (.ref (He.ga K "InvalidList")) = some false)) rfl)⟩
    first | rw [if_neg e0] at hc | skip
    by_cases e1 : c = "InvalidList"
    · subst e1
      first | (rw [if_pos rfl] at hc; cases hc) | skip
      exact ⟨isCB_ok (exB c.ex 5 (b := isCB K (He.ga K "InvalidList")) rfl), of_decide_eq_true (exB c.ex 9 (b := decide (PySem.W.kitOne K (.ref (He.ga K "InvalidList")) (.ref (He.ga K "InvalidList")) = some true)) rfl)⟩
    first | rw [if_neg e1] at hc | skip
    exact nomatch hc
  i_InvalidNumber := by
    intro c b hc
    unfold cf_InvalidNumber at hc
    by_cases e0 : c = "InvalidNumber"
    · subst e0
      first | (rw [if_pos rfl] at hc; cases hc) | skip
      exact ⟨isCB_ok (exB c.ex 4 (b := isCB K (He.ga K "InvalidNumber")) rfl), of_decide_eq_true (exB c.ex 10 (b := decide (PySem.W.kitOne K (.ref (He.ga K "InvalidNumber")) (.ref (He.ga K "InvalidNumber")) = some true)) rfl)⟩
    first | rw [if_neg e0] at hc | skip
    by_cases e1 : c = "InvalidList"
    · subst e1
      first | (rw [if_pos rfl] at hc; cases hc) | skip
      exact ⟨isCB_ok (exB c.ex 5 (b := isCB K (He.ga K "InvalidList")) rfl), of_decide_eq_true (exB c.ex 11 (b := decide (PySem.W.kitOne K (.ref (He.ga K "InvalidList")) (.ref (He.ga K "InvalidNumber")) = some false)) rfl)⟩
    first | rw [if_neg e1] at hc | skip
    exact nomatch hc
  v_ok := by
    intro c hc
    simp only [okv, Bool.or_eq_true, decide_eq_true_eq] at hc
    rcases hc with rfl | rfl
    · exact ⟨xfB_ok (exB c.ex 12 (b := xfB K (He.ga K "InvalidNumber")) rfl), of_decide_eq_true (exB c.ex 13 (b := decide (PySem.W.findIn K (.ref (He.ga K "InvalidNumber")) "value" = some none)) rfl)⟩
    · exact ⟨xfB_ok (exB c.ex 14 (b := xfB K (He.ga K "InvalidList")) rfl), of_decide_eq_true (exB c.ex 15 (b := decide (PySem.W.findIn K (.ref (He.ga K "InvalidList")) "value" = some none)) rfl)⟩
theorem facts {w : World} {K : PySem.W.Frag} {h : Heap} {mg : Str → Option Value} {f : Addr} (X : K.In h) (G : h.Ns mainGlobals mg) (hfa : mg ("law" : Str) = some (.ref f)) (c : SaysE fa fn es exK K) :
    ∃ fd : FuncData, (∀ (s : Shared) (v : Value), BindsTo s fd ⟨[v], []⟩ [("_law_script", v)]) ∧ ∀ base : Heap, K.In base → base.Ns mainGlobals mg → base.NoDigits → FnG PySem.Challenge.pw_skipcounts_k66_rows_of_binomials w K mg base 7 f fd ["_law_script"] (spP K 1 F_law) := by
  obtain ⟨fd_is_whole, Fu_is_whole⟩ := c.d.def_ 0 (d := D_is_whole) rfl
  obtain ⟨fd_is_between, Fu_is_between⟩ := c.d.def_ 1 (d := D_is_between) rfl
  obtain ⟨fd_check_number, Fu_check_number⟩ := c.d.def_ 2 (d := D_check_number) rfl
  obtain ⟨fd_is_binomials, Fu_is_binomials⟩ := c.d.def_ 3 (d := D_is_binomials) rfl
  obtain ⟨fd_check_row, Fu_check_row⟩ := c.d.def_ 4 (d := D_check_row) rfl
  obtain ⟨fd_row_at, Fu_row_at⟩ := c.d.def_ 5 (d := D_row_at) rfl
  obtain ⟨fd_row_value, Fu_row_value⟩ := c.d.def_ 6 (d := D_row_value) rfl
  obtain ⟨fd_trimmed, Fu_trimmed⟩ := c.d.def_ 7 (d := D_trimmed) rfl
  obtain ⟨fd_binomial_row, Fu_binomial_row⟩ := c.d.def_ 8 (d := D_binomial_row) rfl
  obtain ⟨fd_row_product, Fu_row_product⟩ := c.d.def_ 9 (d := D_row_product) rfl
  obtain ⟨fd__law_hash, Fu__law_hash⟩ := c.d.def_ 10 (d := D__law_hash) rfl
  obtain ⟨fd__law_random, Fu__law_random⟩ := c.d.def_ 11 (d := D__law_random) rfl
  obtain ⟨fd__law_cell, Fu__law_cell⟩ := c.d.def_ 12 (d := D__law_cell) rfl
  obtain ⟨fd__law_generator, Fu__law_generator⟩ := c.d.def_ 13 (d := D__law_generator) rfl
  obtain ⟨fd__law_choose, Fu__law_choose⟩ := c.d.def_ 14 (d := D__law_choose) rfl
  obtain ⟨fd__law_value, Fu__law_value⟩ := c.d.def_ 15 (d := D__law_value) rfl
  obtain ⟨fd__law_number, Fu__law_number⟩ := c.d.def_ 16 (d := D__law_number) rfl
  obtain ⟨fd__law_numbers, Fu__law_numbers⟩ := c.d.def_ 17 (d := D__law_numbers) rfl
  obtain ⟨fd__law_counts, Fu__law_counts⟩ := c.d.def_ 18 (d := D__law_counts) rfl
  obtain ⟨fd__law_differences, Fu__law_differences⟩ := c.d.def_ 19 (d := D__law_differences) rfl
  obtain ⟨fd__law_is_row, Fu__law_is_row⟩ := c.d.def_ 20 (d := D__law_is_row) rfl
  obtain ⟨fd__law_made_right, Fu__law_made_right⟩ := c.d.def_ 21 (d := D__law_made_right) rfl
  obtain ⟨fd__law_near_right, Fu__law_near_right⟩ := c.d.def_ 22 (d := D__law_near_right) rfl
  obtain ⟨fd__law_right, Fu__law_right⟩ := c.d.def_ 23 (d := D__law_right) rfl
  obtain ⟨fd__law_caught, Fu__law_caught⟩ := c.d.def_ 24 (d := D__law_caught) rfl
  obtain ⟨fd__law_refused, Fu__law_refused⟩ := c.d.def_ 25 (d := D__law_refused) rfl
  obtain ⟨fd_law, Fu_law⟩ := c.d.def_ 26 (d := D_law) rfl
  have e := hfa.symm.trans (He.glo_ok X G (c.d.fact 26 (f := .glo "law") rfl))
  cases e
  refine ⟨fd_law, fun s v => FunD.bindsA (ps := ["_law_script"]) Fu_law (fun _ _ _ _ _ _ us hl => match us, hl with | [_], _ => rfl) s [v] rfl, fun base _ _ hnd => ?_⟩
  have T := txt_of X G c
  have g__law_cell := ok__law_cell (w := w) T hnd  Fu__law_cell (He.glo_ok X G (c.d.fact 12 (f := .glo "_law_cell") rfl))
  have d__law_cell := def_of Fu__law_cell g__law_cell (He.glo_ok X G (c.d.fact 12 (f := .glo "_law_cell") rfl)) fun _ _ _ _ _ _ us hl => match us, hl with | [_, _], _ => rfl
  have g__law_generator := ok__law_generator (w := w) T hnd d__law_cell Fu__law_generator (He.glo_ok X G (c.d.fact 13 (f := .glo "_law_generator") rfl))
  have d__law_generator := def_of Fu__law_generator g__law_generator (He.glo_ok X G (c.d.fact 13 (f := .glo "_law_generator") rfl)) fun _ _ _ _ _ _ us hl => match us, hl with | [_, _], _ => rfl
  have g_is_whole := ok_is_whole (w := w) T hnd  Fu_is_whole (He.glo_ok X G (c.d.fact 0 (f := .glo "is_whole") rfl))
  have d_is_whole := def_of Fu_is_whole g_is_whole (He.glo_ok X G (c.d.fact 0 (f := .glo "is_whole") rfl)) fun _ _ _ _ _ _ us hl => match us, hl with | [_], _ => rfl
  have g_is_between := ok_is_between (w := w) T hnd d_is_whole Fu_is_between (He.glo_ok X G (c.d.fact 1 (f := .glo "is_between") rfl))
  have d_is_between := def_of Fu_is_between g_is_between (He.glo_ok X G (c.d.fact 1 (f := .glo "is_between") rfl)) fun _ _ _ _ _ _ us hl => match us, hl with | [_, _, _], _ => rfl
  have g_check_number := ok_check_number (w := w) T hnd d_is_between Fu_check_number (He.glo_ok X G (c.d.fact 2 (f := .glo "check_number") rfl))
  have d_check_number := def_of Fu_check_number g_check_number (He.glo_ok X G (c.d.fact 2 (f := .glo "check_number") rfl)) fun _ _ _ _ _ _ us hl => match us, hl with | [_, _, _], _ => rfl
  have g_is_binomials := ok_is_binomials (w := w) T hnd d_is_whole Fu_is_binomials (He.glo_ok X G (c.d.fact 3 (f := .glo "is_binomials") rfl))
  have d_is_binomials := def_of Fu_is_binomials g_is_binomials (He.glo_ok X G (c.d.fact 3 (f := .glo "is_binomials") rfl)) fun _ _ _ _ _ _ us hl => match us, hl with | [_], _ => rfl
  have g_check_row := ok_check_row (w := w) T hnd d_is_binomials Fu_check_row (He.glo_ok X G (c.d.fact 4 (f := .glo "check_row") rfl))
  have d_check_row := def_of Fu_check_row g_check_row (He.glo_ok X G (c.d.fact 4 (f := .glo "check_row") rfl)) fun _ _ _ _ _ _ us hl => match us, hl with | [_], _ => rfl
  have g_row_at := ok_row_at (w := w) T hnd  Fu_row_at (He.glo_ok X G (c.d.fact 5 (f := .glo "row_at") rfl))
  have d_row_at := def_of Fu_row_at g_row_at (He.glo_ok X G (c.d.fact 5 (f := .glo "row_at") rfl)) fun _ _ _ _ _ _ us hl => match us, hl with | [_, _], _ => rfl
  have g_row_value := ok_row_value (w := w) T hnd d_check_number d_check_row d_row_at Fu_row_value (He.glo_ok X G (c.d.fact 6 (f := .glo "row_value") rfl))
  have d_row_value := def_of Fu_row_value g_row_value (He.glo_ok X G (c.d.fact 6 (f := .glo "row_value") rfl)) fun _ _ _ _ _ _ us hl => match us, hl with | [_, _], _ => rfl
  have r_row_value := defR_of Fu_row_value g_row_value (He.glo_ok X G (c.d.fact 6 (f := .glo "row_value") rfl)) fun _ _ _ _ _ _ us hl => match us, hl with | [_, _], _ => rfl
  have g_trimmed := ok_trimmed (w := w) T hnd  Fu_trimmed (He.glo_ok X G (c.d.fact 7 (f := .glo "trimmed") rfl))
  have d_trimmed := def_of Fu_trimmed g_trimmed (He.glo_ok X G (c.d.fact 7 (f := .glo "trimmed") rfl)) fun _ _ _ _ _ _ us hl => match us, hl with | [_], _ => rfl
  have g_binomial_row := ok_binomial_row (w := w) T hnd d_is_whole d_trimmed Fu_binomial_row (He.glo_ok X G (c.d.fact 8 (f := .glo "binomial_row") rfl))
  have d_binomial_row := def_of Fu_binomial_row g_binomial_row (He.glo_ok X G (c.d.fact 8 (f := .glo "binomial_row") rfl)) fun _ _ _ _ _ _ us hl => match us, hl with | [_], _ => rfl
  have r_binomial_row := defR_of Fu_binomial_row g_binomial_row (He.glo_ok X G (c.d.fact 8 (f := .glo "binomial_row") rfl)) fun _ _ _ _ _ _ us hl => match us, hl with | [_], _ => rfl
  have g_row_product := ok_row_product (w := w) T hnd d_check_row d_row_at d_binomial_row Fu_row_product (He.glo_ok X G (c.d.fact 9 (f := .glo "row_product") rfl))
  have d_row_product := def_of Fu_row_product g_row_product (He.glo_ok X G (c.d.fact 9 (f := .glo "row_product") rfl)) fun _ _ _ _ _ _ us hl => match us, hl with | [_, _], _ => rfl
  have r_row_product := defR_of Fu_row_product g_row_product (He.glo_ok X G (c.d.fact 9 (f := .glo "row_product") rfl)) fun _ _ _ _ _ _ us hl => match us, hl with | [_, _], _ => rfl
  have g__law_hash := ok__law_hash (w := w) T hnd  Fu__law_hash (He.glo_ok X G (c.d.fact 10 (f := .glo "_law_hash") rfl))
  have d__law_hash := def_of Fu__law_hash g__law_hash (He.glo_ok X G (c.d.fact 10 (f := .glo "_law_hash") rfl)) fun _ _ _ _ _ _ us hl => match us, hl with | [_, _], _ => rfl
  have g__law_random := ok__law_random (w := w) T hnd d__law_hash Fu__law_random (He.glo_ok X G (c.d.fact 11 (f := .glo "_law_random") rfl))
  have d__law_random := def_of Fu__law_random g__law_random (He.glo_ok X G (c.d.fact 11 (f := .glo "_law_random") rfl)) fun _ _ _ _ _ _ us hl => match us, hl with | [_, _], _ => rfl
  have g__law_choose := ok__law_choose (w := w) T hnd  Fu__law_choose (He.glo_ok X G (c.d.fact 14 (f := .glo "_law_choose") rfl))
  have d__law_choose := def_of Fu__law_choose g__law_choose (He.glo_ok X G (c.d.fact 14 (f := .glo "_law_choose") rfl)) fun _ _ _ _ _ _ us hl => match us, hl with | [_, _], _ => rfl
  have g__law_value := ok__law_value (w := w) T hnd d__law_choose Fu__law_value (He.glo_ok X G (c.d.fact 15 (f := .glo "_law_value") rfl))
  have d__law_value := def_of Fu__law_value g__law_value (He.glo_ok X G (c.d.fact 15 (f := .glo "_law_value") rfl)) fun _ _ _ _ _ _ us hl => match us, hl with | [_, _], _ => rfl
  have g__law_number := ok__law_number (w := w) T hnd d__law_random Fu__law_number (He.glo_ok X G (c.d.fact 16 (f := .glo "_law_number") rfl))
  have d__law_number := def_of Fu__law_number g__law_number (He.glo_ok X G (c.d.fact 16 (f := .glo "_law_number") rfl)) fun _ _ _ _ _ _ us hl => match us, hl with | [_], _ => rfl
  have g__law_numbers := ok__law_numbers (w := w) T hnd d__law_random d__law_value d__law_number Fu__law_numbers (He.glo_ok X G (c.d.fact 17 (f := .glo "_law_numbers") rfl))
  have d__law_numbers := def_of Fu__law_numbers g__law_numbers (He.glo_ok X G (c.d.fact 17 (f := .glo "_law_numbers") rfl)) fun _ _ _ _ _ _ us hl => match us, hl with | [_], _ => rfl
  have g__law_counts := ok__law_counts (w := w) T hnd d__law_random Fu__law_counts (He.glo_ok X G (c.d.fact 18 (f := .glo "_law_counts") rfl))
  have d__law_counts := def_of Fu__law_counts g__law_counts (He.glo_ok X G (c.d.fact 18 (f := .glo "_law_counts") rfl)) fun _ _ _ _ _ _ us hl => match us, hl with | [_], _ => rfl
  have g__law_differences := ok__law_differences (w := w) T hnd  Fu__law_differences (He.glo_ok X G (c.d.fact 19 (f := .glo "_law_differences") rfl))
  have d__law_differences := def_of Fu__law_differences g__law_differences (He.glo_ok X G (c.d.fact 19 (f := .glo "_law_differences") rfl)) fun _ _ _ _ _ _ us hl => match us, hl with | [_], _ => rfl
  have g__law_is_row := ok__law_is_row (w := w) T hnd  Fu__law_is_row (He.glo_ok X G (c.d.fact 20 (f := .glo "_law_is_row") rfl))
  have d__law_is_row := def_of Fu__law_is_row g__law_is_row (He.glo_ok X G (c.d.fact 20 (f := .glo "_law_is_row") rfl)) fun _ _ _ _ _ _ us hl => match us, hl with | [_], _ => rfl
  have g__law_made_right := ok__law_made_right (w := w) T hnd d_row_value d_binomial_row d__law_differences d__law_is_row r_binomial_row Fu__law_made_right (He.glo_ok X G (c.d.fact 21 (f := .glo "_law_made_right") rfl))
  have d__law_made_right := def_of Fu__law_made_right g__law_made_right (He.glo_ok X G (c.d.fact 21 (f := .glo "_law_made_right") rfl)) fun _ _ _ _ _ _ us hl => match us, hl with | [_], _ => rfl
  have g__law_near_right := ok__law_near_right (w := w) T hnd d_row_value d__law_random Fu__law_near_right (He.glo_ok X G (c.d.fact 22 (f := .glo "_law_near_right") rfl))
  have d__law_near_right := def_of Fu__law_near_right g__law_near_right (He.glo_ok X G (c.d.fact 22 (f := .glo "_law_near_right") rfl)) fun _ _ _ _ _ _ us hl => match us, hl with | [_, _], _ => rfl
  have g__law_right := ok__law_right (w := w) T hnd d_row_value d_row_product d__law_random d__law_value d__law_numbers d__law_counts d__law_differences d__law_is_row d__law_made_right d__law_near_right r_row_value r_row_product Fu__law_right (He.glo_ok X G (c.d.fact 23 (f := .glo "_law_right") rfl))
  have d__law_right := def_of Fu__law_right g__law_right (He.glo_ok X G (c.d.fact 23 (f := .glo "_law_right") rfl)) fun _ _ _ _ _ _ us hl => match us, hl with | [_], _ => rfl
  have g__law_caught := ok__law_caught (w := w) T hnd d_row_value d_binomial_row d_row_product Fu__law_caught (He.glo_ok X G (c.d.fact 24 (f := .glo "_law_caught") rfl))
  have d__law_caught := def_of Fu__law_caught g__law_caught (He.glo_ok X G (c.d.fact 24 (f := .glo "_law_caught") rfl)) fun _ _ _ _ _ _ us hl => match us, hl with | [_, _], _ => rfl
  have g__law_refused := ok__law_refused (w := w) T hnd d_binomial_row d__law_caught Fu__law_refused (He.glo_ok X G (c.d.fact 25 (f := .glo "_law_refused") rfl))
  have d__law_refused := def_of Fu__law_refused g__law_refused (He.glo_ok X G (c.d.fact 25 (f := .glo "_law_refused") rfl)) fun _ _ _ _ _ _ us hl => match us, hl with | [], _ => rfl
  exact ok_law T hnd d__law_generator d__law_right d__law_refused Fu_law (He.glo_ok X G (c.d.fact 26 (f := .glo "law") rfl))
def loose0 : List Str := ["SkipError", "InvalidNumber", "InvalidList", "is_whole", "is_between", "check_number", "is_binomials", "check_row", "row_at", "row_value", "trimmed", "binomial_row", "row_product", "_law_hash", "_law_random", "_law_cell", "_law_generator", "_law_choose", "_law_value", "_law_number", "_law_numbers", "_law_counts", "_law_differences", "_law_is_row", "_law_made_right", "_law_near_right", "_law_right", "_law_caught", "_law_refused"]
def loose : List Str := loose0
abbrev R : PySem.W.OpenRow := PySem.W.OpenLaw.row PySem.Challenge.rw_skipcounts_k66_rows_of_binomials
abbrev hk : PySem.W.Hook := hookE 4 fa fn es exK
def ob (s : PySem.W.SharedT) : AlE := obsE 4 fa fn es exK (HandSHeadRun.getT s)
theorem ob_eq (s : PySem.W.SharedT) : ob s = hk.obs s.abs := obsE_eq (HandSHeadRun.getT_eq s)
theorem run (w : World) : HandSHeadRun.RunEq R (PySem.W.view R.prog [33]) hk ob 4000 loose w := by
  intro os
  kernel_rfl
end T66
set_option Elab.async false
set_option linter.all false
set_option maxRecDepth 100000
set_option maxHeartbeats 0
open PySem PySem.W PySem.Calls PyProof.Rows
theorem holds_of (hlaw : ∀ ns : List Int, ns.length ≤ 63 → (∀ i ∈ ns, Builtin.Int.intBits i ≤ 1048576) → T66.F_law [.fro (ns.map .int)] = .ok (.bl true)) : PySem.Challenge.rw_skipcounts_k66_rows_of_binomials.Holds := by
  w_on; o_law
  refine HandSHeadRun.head_any (r := OpenLaw.row PySem.Challenge.rw_skipcounts_k66_rows_of_binomials) (q := view (OpenLaw.row PySem.Challenge.rw_skipcounts_k66_rows_of_binomials).prog [33]) (H := T66.hk) (ob := T66.ob) (M := 4000) (loose := T66.loose) (d := HandSHeadRun.topDef (OpenLaw.row PySem.Challenge.rw_skipcounts_k66_rows_of_binomials).prog 33) (kwd := []) T66.ob_eq
    (by kernel_rfl) (fun s => by kernel_rfl) T66.run (by kernel_rfl) (by kernel_rfl) (by kernel_rfl) (by rfl) (by first | assumption | decide +kernel) (by decide +kernel) ⟨rfl, rfl, rfl, rfl, rfl, by decide +kernel⟩ ?hw ?hc
  case hw => w_witness2
  case hc =>
    refine DL.walkGB (l := PySem.Challenge.rw_skipcounts_k66_rows_of_binomials) (n := 63) (k := 7) (x := "_law_script") rfl (by decide) (by kernel_rfl) ⟨rfl, by decide, by decide⟩ ?F
    intro w mg fa h Y G hmg0
    obtain ⟨K, KX, c⟩ := Y
    have hmg : mg ("law" : PySem.Str) = some (.ref fa) := by
      have e : (HandSHeadRun.topDef (OpenLaw.row PySem.Challenge.rw_skipcounts_k66_rows_of_binomials).prog 33).name = ("law" : PySem.Str) := by kernel_rfl
      rw [← e]
      exact hmg0
    obtain ⟨fd, hb, hF⟩ := T66.facts (w := w) KX G hmg c
    exact ⟨K, fd, DL.spP K 1 T66.F_law, KX, hb, fun H a ns hl hbits hS => DL.sp_law (hlaw ns hl hbits) hS, hF⟩
theorem PySem.Challenge.cw_skipcounts_k66_rows_of_binomials_holds : PySem.Challenge.rw_skipcounts_k66_rows_of_binomials.Holds :=
  holds_of fun ns _ _ => T66.law_ok ns
