import PyProof.Rows.All
import Wide.All
import OpenK.AllK
import Wide.FinOn
import HandS.ForMost
import HandS.ForExc
import HandS.Defaults
import HandS.CallSlots
import HandS.Wide
import HandS.TupAny
import HandS.TupMul
import HandS.Style
import HandS.Deep
import HandS.WordsDict
import HandS.IsInst
import HandS.Zip
import KE.KExcSuper
import KE.KExcIs
import HandS.HeadWalk
import KE.SortData
import HandS.SortKw
import PyProof.TupleOfSeq
import HandS.SetFor
import HandS.Small
import KE.KStateDown
import HandS.Head0
import HandS.Head1
import HandS.Head2
import HandS.HeadEnd
import HandS.HeadHook1
import HandS.HeadHook2
import PySem.Challenge.RW_alikeatrest_k78_what_is_a_net
set_option Elab.async false
set_option linter.all false
set_option maxRecDepth 100000
set_option autoImplicit false
section part_Mir0
set_option maxHeartbeats 1000000
/-! Mir0: plain data D, stores, mirrors, and what it means that a piece of the text does what its mirror tells. -/
namespace Mir
open PySem PySem.Spec PyProof.Rows L2

/-- a value of the mirror: tuples are plain data, lists and dicts stand in the store under a number -/
inductive D where
  | non | bl (b : Bool) | int (i : Int) | str (x : Str) | tup (xs : List D) | ref (i : Nat)
  deriving Inhabited
inductive Ob where
  | lst (xs : List D) | ro (xs : List D) | dct (kvs : List (Key × D)) | dtt (kvs : List (List Key × D))
abbrev Sto := List Ob
/-- an error of one of the text's own classes: its class's name, its fields -/
structure Exn where
  cls : Str
  fs : List (Str × D)
inductive Out (α : Type) where
  | ok (a : α) (st : Sto) | err (x : Exn) (st : Sto) | bad
def M (α : Type) : Type := Sto → Out α
namespace M
def pure {α : Type} (a : α) : M α := fun st => .ok a st
def bind {α β : Type} (x : M α) (f : α → M β) : M β := fun st => match x st with
  | .ok a st' => f a st'
  | .err e st' => .err e st'
  | .bad => .bad
end M
instance : Monad M where
  pure := M.pure
  bind := M.bind
def bad {α : Type} : M α := fun _ => .bad
def getSt : M Sto := fun st => .ok st st
def Out.Wp {α : Type} (o : Out α) (Q : α → Sto → Prop) (E : Exn → Sto → Prop) : Prop := match o with
  | .ok a st => Q a st
  | .err x st => E x st
  | .bad => False
section
variable {α β : Type} {Q Q' : α → Sto → Prop} {E E' : Exn → Sto → Prop} {st : Sto}
theorem wp_mono {o : Out α} (h : o.Wp Q E) (hq : ∀ a st, Q a st → Q' a st) (he : ∀ x st, E x st → E' x st) : o.Wp Q' E' := by
  cases o with
  | ok a st => exact hq _ _ h
  | err x st => exact he _ _ h
  | bad => exact h
theorem bind_def (x : M α) (f : α → M β) (st : Sto) : (x >>= f) st = match x st with
  | .ok a st' => f a st'
  | .err e st' => .err e st'
  | .bad => .bad := rfl
theorem pure_def (a : α) (st : Sto) : (Pure.pure a : M α) st = .ok a st := rfl
theorem wp_bind {x : M α} {f : α → M β} {R : β → Sto → Prop} : ((x >>= f) st).Wp R E ↔ (x st).Wp (fun a st' => (f a st').Wp R E) E := by
  rw [bind_def]
  cases x st <;> exact Iff.rfl
theorem wp_pure {a : α} : ((Pure.pure a : M α) st).Wp Q E ↔ Q a st := Iff.rfl
theorem wp_ok {a : α} {st' : Sto} : (Out.ok a st').Wp Q E ↔ Q a st' := Iff.rfl
theorem wp_err {x : Exn} {st' : Sto} : (Out.err x st' : Out α).Wp Q E ↔ E x st' := Iff.rfl
theorem wp_bad : (Out.bad : Out α).Wp Q E ↔ False := Iff.rfl
end

/-! ### what stands for what -/
section
variable (K : PySem.W.Frag)
mutual
def Rel (m : List Addr) (H : Hp) : D → V → Prop
  | .non, v => v = .non
  | .bl b, v => v = .bl b
  | .int i, v => v = .int i
  | .str x, v => v = .str x
  | .tup ds, v => ∃ p vs, v = .ref p ∧ SqT K H p vs ∧ RelL m H ds vs
  | .ref i, v => ∃ p, m[i]? = some p ∧ v = .ref p
def RelL (m : List Addr) (H : Hp) : List D → List V → Prop
  | [], vs => vs = []
  | d :: ds, vs => ∃ v r, vs = v :: r ∧ Rel m H d v ∧ RelL m H ds r
end
def RelKV (m : List Addr) (H : Hp) {κ : Type} : List (κ × D) → List (κ × V) → Prop
  | [], vs => vs = []
  | d :: ds, vs => ∃ v r, vs = (d.1, v) :: r ∧ Rel K m H d.2 v ∧ RelKV m H ds r
def ObRel (m : List Addr) (H : Hp) (p : Addr) : Ob → Prop
  | .lst xs => ∃ vs, H p = some (.lst vs) ∧ RelL K m H xs vs
  | .ro xs => ∃ o vs, H p = some (.frz o (.lst vs)) ∧ RelL K m H xs vs
  | .dct kvs => ∃ vs, H p = some (.dK vs) ∧ RelKV K m H kvs vs
  | .dtt kvs => ∃ vs, H p = some (.dT vs) ∧ RelKV K m H kvs vs
structure Sim (m : List Addr) (st : Sto) (H : Hp) : Prop where
  len : m.length = st.length
  nd : m.Nodup
  ob : ∀ (i : Nat) (p : Addr) (o : Ob), m[i]? = some p → st[i]? = some o → ObRel K m H p o
/-- how the heap goes on -/
structure Step (m : List Addr) (H : Hp) (m' : List Addr) (H' : Hp) : Prop where
  pre : ∃ l, m' = m ++ l ∧ ∀ p ∈ l, H p = none
  keep : ∀ p o, H p = some o → p ∉ m → H' p = some o
  dom : ∀ p, H p ≠ none → H' p ≠ none
  tups : ∀ p vs, SqT K H p vs → SqT K H' p vs
def RelO (m : List Addr) (H : Hp) : Option D → Option V → Prop
  | none, _ => True
  | some d, some v => Rel K m H d v
  | some _, none => False
abbrev SS := L2.St
abbrev En := List (Option D)
def RelN (m : List Addr) (H : Hp) : En → SS → Prop
  | [], σ => σ = []
  | o :: en, σ => ∃ u r, σ = u :: r ∧ RelO K m H o u ∧ RelN m H en r
/-- an error in the air -/
def RelX (mg : Str → Option Value) (m : List Addr) (H : Hp) (x : Exn) (cls : Value) (dd : Option Addr) : Prop :=
  ∃ C d fs, mg x.cls = some (.ref C) ∧ cls = .ref C ∧ dd = some d ∧ H d = some (.xd fs) ∧ d ∉ m ∧ RelKV K m H x.fs fs
end

section
variable {K : PySem.W.Frag} {m m' m1 m2 : List Addr} {H H' H1 H2 : Hp} {st st' : Sto}
theorem Step.refl : Step K m H m H := ⟨⟨[], by simp, by simp⟩, fun _ _ h _ => h, fun _ h => h, fun _ _ h => h⟩
theorem Step.trans (a : Step K m H m1 H1) (b : Step K m1 H1 m2 H2) : Step K m H m2 H2 := by
  obtain ⟨l1, e1, f1⟩ := a.pre
  obtain ⟨l2, e2, f2⟩ := b.pre
  refine ⟨⟨l1 ++ l2, by rw [e2, e1, List.append_assoc], fun p hp => ?_⟩, fun p o h hn => b.keep p o (a.keep p o h hn) ?_, fun p h => b.dom p (a.dom p h), fun p vs h => b.tups p vs (a.tups p vs h)⟩
  · rcases List.mem_append.mp hp with h | h
    · exact f1 p h
    · cases q : H p with
      | none => rfl
      | some o => exact absurd (f2 p h) (a.dom p (by rw [q]; exact fun z => nomatch z))
  · rw [e1]
    intro hm
    rcases List.mem_append.mp hm with h' | h'
    · exact hn h'
    · rw [f1 p h'] at h; cases h
theorem Step.get {i : Nat} {p : Addr} (s : Step K m H m' H') (h : m[i]? = some p) : m'[i]? = some p := by
  obtain ⟨l, e, _⟩ := s.pre
  rw [e, List.getElem?_append_left (List.getElem?_eq_some_iff.mp h).1]
  exact h
/-- what the relations lean on -/
structure Sub (K : PySem.W.Frag) (m : List Addr) (H : Hp) (m' : List Addr) (H' : Hp) : Prop where
  get : ∀ {i : Nat} {p : Addr}, m[i]? = some p → m'[i]? = some p
  tups : ∀ p vs, SqT K H p vs → SqT K H' p vs
theorem Step.sub (s : Step K m H m' H') : Sub K m H m' H' := ⟨s.get, s.tups⟩
mutual
theorem Rel.sub (s : Sub K m H m' H') : ∀ {d : D} {v : V}, Rel K m H d v → Rel K m' H' d v
  | .non, _, h => h
  | .bl _, _, h => h
  | .int _, _, h => h
  | .str _, _, h => h
  | .tup ds, _, h => by
    obtain ⟨p, vs, e, t, r⟩ := h
    exact ⟨p, vs, e, s.tups _ _ t, RelL.sub s r⟩
  | .ref i, _, h => by
    obtain ⟨p, e, h⟩ := h
    exact ⟨p, s.get e, h⟩
theorem RelL.sub (s : Sub K m H m' H') : ∀ {ds : List D} {vs : List V}, RelL K m H ds vs → RelL K m' H' ds vs
  | [], _, h => h
  | d :: ds, _, h => by
    obtain ⟨v, r, e, h1, h2⟩ := h
    exact ⟨v, r, e, Rel.sub s h1, RelL.sub s h2⟩
end
theorem RelKV.sub {κ : Type} (s : Sub K m H m' H') : ∀ {ds : List (κ × D)} {vs : List (κ × V)}, RelKV K m H ds vs → RelKV K m' H' ds vs
  | [], _, h => h
  | d :: ds, _, h => by
    obtain ⟨v, r, e, h1, h2⟩ := h
    exact ⟨v, r, e, h1.sub s, RelKV.sub s h2⟩
theorem RelO.sub (s : Sub K m H m' H') {o : Option D} {u : Option V} (h : RelO K m H o u) : RelO K m' H' o u := by
  cases o with
  | none => trivial
  | some d =>
    cases u with
    | none => exact h
    | some v => exact Rel.sub s h
theorem RelN.sub (s : Sub K m H m' H') : ∀ {en : En} {σ : SS}, RelN K m H en σ → RelN K m' H' en σ
  | [], _, h => h
  | o :: en, _, h => by
    obtain ⟨u, r, e, h1, h2⟩ := h
    exact ⟨u, r, e, h1.sub s, RelN.sub s h2⟩
theorem RelN.length : ∀ {en : En} {σ : SS}, RelN K m H en σ → en.length = σ.length
  | [], _, h => by cases h; rfl
  | o :: en, _, h => by
    obtain ⟨u, r, rfl, h1, h2⟩ := h
    simp [RelN.length h2]
theorem RelN.get : ∀ {en : En} {σ : SS} {i : Nat} {d : D}, RelN K m H en σ → en[i]? = some (some d) → ∃ v, σ[i]? = some (some v) ∧ Rel K m H d v
  | [], _, i, d, h, e => by simp at e
  | o :: en, _, 0, d, h, e => by
    obtain ⟨u, r, rfl, h1, h2⟩ := h
    simp at e
    subst e
    cases u with
    | none => exact h1.elim
    | some v => exact ⟨v, rfl, h1⟩
  | o :: en, _, i + 1, d, h, e => by
    obtain ⟨u, r, rfl, h1, h2⟩ := h
    exact RelN.get (i := i) h2 (by simpa using e)
theorem RelN.set {v : V} {d : D} (r : Rel K m H d v) : ∀ {en : En} {σ : SS} (i : Nat), RelN K m H en σ → RelN K m H (en.set i (some d)) (σ.set i (some v))
  | [], _, i, h => by cases h; rfl
  | o :: en, _, 0, h => by
    obtain ⟨u, r', rfl, h1, h2⟩ := h
    exact ⟨_, _, rfl, r, h2⟩
  | o :: en, _, i + 1, h => by
    obtain ⟨u, r', rfl, h1, h2⟩ := h
    exact ⟨_, _, rfl, h1, RelN.set r i h2⟩
theorem RelN.setNone : ∀ {en : En} {σ : SS} (i : Nat) (u : Option V), RelN K m H en σ → RelN K m H (en.set i none) (σ.set i u)
  | [], _, i, u, h => by cases h; rfl
  | o :: en, _, 0, u, h => by
    obtain ⟨u, r', rfl, h1, h2⟩ := h
    exact ⟨_, _, rfl, trivial, h2⟩
  | o :: en, _, i + 1, u, h => by
    obtain ⟨u, r', rfl, h1, h2⟩ := h
    exact ⟨_, _, rfl, h1, RelN.setNone i _ h2⟩
theorem RelL.length : ∀ {ds : List D} {vs : List V}, RelL K m H ds vs → ds.length = vs.length
  | [], _, h => by cases h; rfl
  | d :: ds, _, h => by
    obtain ⟨u, r, rfl, h1, h2⟩ := h
    simp [RelL.length h2]
theorem RelL.append : ∀ {ds es : List D} {vs ws : List V}, RelL K m H ds vs → RelL K m H es ws → RelL K m H (ds ++ es) (vs ++ ws)
  | [], _, _, _, h, g => by cases h; exact g
  | d :: ds, _, _, _, h, g => by
    obtain ⟨u, r, rfl, h1, h2⟩ := h
    exact ⟨u, _, rfl, h1, RelL.append h2 g⟩
theorem RelL.one {d : D} {v : V} (h : Rel K m H d v) : RelL K m H [d] [v] := ⟨v, [], rfl, h, rfl⟩
theorem RelL.get : ∀ {ds : List D} {vs : List V} {i : Nat} {d : D}, RelL K m H ds vs → ds[i]? = some d → ∃ v, vs[i]? = some v ∧ Rel K m H d v
  | [], _, i, d, h, e => by simp at e
  | _ :: ds, _, 0, d, h, e => by
    obtain ⟨u, r, rfl, h1, h2⟩ := h
    simp at e
    subst e
    exact ⟨u, rfl, h1⟩
  | _ :: ds, _, i + 1, d, h, e => by
    obtain ⟨u, r, rfl, h1, h2⟩ := h
    exact RelL.get (i := i) h2 (by simpa using e)
theorem RelL.getV : ∀ {ds : List D} {vs : List V} {i : Nat} {v : V}, RelL K m H ds vs → vs[i]? = some v → ∃ d, ds[i]? = some d ∧ Rel K m H d v
  | [], _, i, v, h, e => by cases h; simp at e
  | d :: ds, _, 0, v, h, e => by
    obtain ⟨u, r, rfl, h1, h2⟩ := h
    simp at e
    subst e
    exact ⟨d, rfl, h1⟩
  | d :: ds, _, i + 1, v, h, e => by
    obtain ⟨u, r, rfl, h1, h2⟩ := h
    exact RelL.getV (i := i) h2 (by simpa using e)
theorem RelL.take : ∀ {ds : List D} {vs : List V} (n : Nat), RelL K m H ds vs → RelL K m H (ds.take n) (vs.take n)
  | [], _, n, h => by cases h; simp [RelL]
  | d :: ds, _, 0, h => by simp [RelL]
  | d :: ds, _, n + 1, h => by
    obtain ⟨u, r, rfl, h1, h2⟩ := h
    exact ⟨_, _, rfl, h1, RelL.take n h2⟩
theorem RelL.drop : ∀ {ds : List D} {vs : List V} (n : Nat), RelL K m H ds vs → RelL K m H (ds.drop n) (vs.drop n)
  | [], _, n, h => by cases h; simp [RelL]
  | d :: ds, _, 0, h => h
  | d :: ds, _, n + 1, h => by
    obtain ⟨u, r, rfl, h1, h2⟩ := h
    exact RelL.drop n h2
theorem RelL.set {d : D} {v : V} (r : Rel K m H d v) : ∀ {ds : List D} {vs : List V} (i : Nat), RelL K m H ds vs → RelL K m H (ds.set i d) (vs.set i v)
  | [], _, i, h => by cases h; simp [RelL]
  | _ :: ds, _, 0, h => by
    obtain ⟨u, r', rfl, h1, h2⟩ := h
    exact ⟨_, _, rfl, r, h2⟩
  | _ :: ds, _, i + 1, h => by
    obtain ⟨u, r', rfl, h1, h2⟩ := h
    exact ⟨_, _, rfl, h1, RelL.set r i h2⟩
theorem RelL.rep {ds : List D} {vs : List V} (h : RelL K m H ds vs) : ∀ k : Nat, RelL K m H (List.replicate k ds).flatten (List.replicate k vs).flatten
  | 0 => rfl
  | k + 1 => by
    rw [List.replicate_succ, List.replicate_succ, List.flatten_cons, List.flatten_cons]
    exact h.append (RelL.rep h k)
theorem RelL.reverse : ∀ {ds : List D} {vs : List V}, RelL K m H ds vs → RelL K m H ds.reverse vs.reverse
  | [], _, h => by cases h; simp [RelL]
  | d :: ds, _, h => by
    obtain ⟨u, r, rfl, h1, h2⟩ := h
    rw [List.reverse_cons, List.reverse_cons]
    exact (RelL.reverse h2).append (.one h1)
theorem RelL.ints : ∀ {ns : List Int} {vs : List V}, RelL K m H (ns.map D.int) vs → vs = ns.map V.int
  | [], _, h => h
  | n :: ns, _, h => by
    obtain ⟨u, r, rfl, h1, h2⟩ := h
    cases h1
    rw [RelL.ints h2]; rfl
theorem RelL.ofInts : ∀ {ns : List Int}, RelL K m H (ns.map D.int) (ns.map V.int)
  | [] => rfl
  | n :: ns => ⟨_, _, rfl, rfl, RelL.ofInts⟩

theorem nodup_get {l : List Addr} (hn : l.Nodup) {i j : Nat} {p : Addr} (a : l[i]? = some p) (b : l[j]? = some p) : i = j := by
  obtain ⟨h1, e1⟩ := List.getElem?_eq_some_iff.mp a
  obtain ⟨h2, e2⟩ := List.getElem?_eq_some_iff.mp b
  exact (List.getElem_inj hn).mp (e1.trans e2.symm)
theorem ObRel.some {p : Addr} {o : Ob} (h : ObRel K m H p o) : ∃ u, H p = some u ∧ (∀ vs, u ≠ .tup vs) ∧ (∀ ob vs, u ≠ .frz ob (.tup vs)) ∧ (∀ fs, u ≠ .xd fs) := by
  cases o with
  | lst xs => obtain ⟨vs, e, _⟩ := h; exact ⟨_, e, (fun _ z => nomatch z), (fun _ _ z => nomatch z), (fun _ z => nomatch z)⟩
  | ro xs => obtain ⟨ob, vs, e, _⟩ := h; exact ⟨_, e, (fun _ z => nomatch z), (fun _ _ z => nomatch z), (fun _ z => nomatch z)⟩
  | dct xs => obtain ⟨vs, e, _⟩ := h; exact ⟨_, e, (fun _ z => nomatch z), (fun _ _ z => nomatch z), (fun _ z => nomatch z)⟩
  | dtt xs => obtain ⟨vs, e, _⟩ := h; exact ⟨_, e, (fun _ z => nomatch z), (fun _ _ z => nomatch z), (fun _ z => nomatch z)⟩
theorem Sim.at (S : Sim K m st H) {p : Addr} (hp : p ∈ m) : ∃ (i : Nat) (o : Ob), m[i]? = some p ∧ st[i]? = some o ∧ ObRel K m H p o := by
  obtain ⟨i, e⟩ := List.getElem?_of_mem hp
  have hi : i < st.length := by rw [← S.len]; exact (List.getElem?_eq_some_iff.mp e).1
  exact ⟨i, st[i], e, by simp [hi], S.ob i p _ e (by simp [hi])⟩
theorem Sim.there (S : Sim K m st H) {p : Addr} (hp : p ∈ m) : ∃ u, H p = some u ∧ (∀ vs, u ≠ .tup vs) ∧ (∀ ob vs, u ≠ .frz ob (.tup vs)) ∧ (∀ fs, u ≠ .xd fs) := by
  obtain ⟨i, o, _, _, h⟩ := S.at hp
  exact h.some
theorem Sim.fresh (S : Sim K m st H) {p : Addr} (h : H p = none) : p ∉ m := fun hp => by
  obtain ⟨u, e, _⟩ := S.there hp
  rw [h] at e; cases e
/-- an object's description goes on, where the object itself stays -/
theorem ObRel.sub {p : Addr} {o : Ob} (s : Sub K m H m' H') (e : H' p = H p) (h : ObRel K m H p o) : ObRel K m' H' p o := by
  cases o with
  | lst xs => obtain ⟨vs, q, r⟩ := h; exact ⟨vs, e.trans q, r.sub s⟩
  | ro xs => obtain ⟨ob, vs, q, r⟩ := h; exact ⟨ob, vs, e.trans q, r.sub s⟩
  | dct xs => obtain ⟨vs, q, r⟩ := h; exact ⟨vs, e.trans q, r.sub s⟩
  | dtt xs => obtain ⟨vs, q, r⟩ := h; exact ⟨vs, e.trans q, r.sub s⟩
theorem sqT_upd_fresh {p q : Addr} {o : HO} {vs : List V} (hp : H p = none) (h : SqT K H q vs) : SqT K (upd H p o) q vs := by
  rcases h with h | h
  · refine .inl ?_
    rcases h with h | ⟨ob, h⟩
    · exact .inl (by rw [upd_ne (ne_of_none h hp)]; exact h)
    · exact .inr ⟨ob, by rw [upd_ne (ne_of_none h hp)]; exact h⟩
  · exact .inr h
/-- a new object beside -/
theorem Step.new {p : Addr} {o : HO} (hp : H p = none) : Step K m H m (upd H p o) where
  pre := ⟨[], by simp, by simp⟩
  keep := fun q u h _ => by rw [upd_ne (ne_of_none h hp)]; exact h
  dom := fun q h => by
    by_cases e : q = p
    · subst e; rw [upd_same]; exact fun z => nomatch z
    · rw [upd_ne e]; exact h
  tups := fun q vs h => sqT_upd_fresh hp h
theorem Sim.new {p : Addr} {o : HO} (S : Sim K m st H) (hp : H p = none) : Sim K m st (upd H p o) :=
  ⟨S.len, S.nd, fun i q ob h1 h2 => (S.ob i q ob h1 h2).sub (Step.new hp).sub (by
    have hq : q ∈ m := List.mem_of_getElem? h1
    rw [upd_ne (fun (e : q = p) => S.fresh hp (e ▸ hq))])⟩
/-- an object beside that comes under the numbers -/
theorem Step.take {p : Addr} (hp : H p = none) (s : Step K m H m' H') : Step K m H (m' ++ [p]) H' := by
  obtain ⟨l, e, f⟩ := s.pre
  refine ⟨⟨l ++ [p], by rw [e, List.append_assoc], fun q hq => ?_⟩, s.keep, s.dom, s.tups⟩
  rcases List.mem_append.mp hq with h | h
  · exact f q h
  · have : q = p := by simpa using h
    subst this; exact hp
theorem Sub.app {l : List Addr} : Sub K m H (m ++ l) H := ⟨fun {i p} e => by rw [List.getElem?_append_left (List.getElem?_eq_some_iff.mp e).1]; exact e, fun _ _ h => h⟩
theorem Sim.take {p : Addr} {o : Ob} (S : Sim K m st H) (hp : p ∉ m) (ho : ObRel K m H p o) : Sim K (m ++ [p]) (st ++ [o]) H := by
  refine ⟨by simp [S.len], ?_, fun i q ob h1 h2 => ?_⟩
  · rw [List.nodup_append]
    exact ⟨S.nd, by simp, fun a ha b hb => by
      have : b = p := by simpa using hb
      subst this
      exact fun e => hp (e ▸ ha)⟩
  · by_cases hi : i < m.length
    · rw [List.getElem?_append_left hi] at h1
      rw [List.getElem?_append_left (S.len ▸ hi)] at h2
      exact (S.ob i q ob h1 h2).sub Sub.app rfl
    · have hi' : m.length ≤ i := Nat.le_of_not_lt hi
      rw [List.getElem?_append_right hi'] at h1
      rw [List.getElem?_append_right (S.len ▸ hi'), ← S.len] at h2
      cases e : i - m.length with
      | zero =>
        rw [e] at h1 h2
        simp at h1 h2
        subst h1 h2
        exact ho.sub Sub.app rfl
      | succ n => rw [e] at h1; simp at h1
/-- a numbered object is written -/
theorem Step.write {p : Addr} {o : HO} (S : Sim K m st H) (hp : p ∈ m) : Step K m H m (upd H p o) where
  pre := ⟨[], by simp, by simp⟩
  keep := fun q u h hn => by rw [upd_ne (fun (e : q = p) => hn (e ▸ hp))]; exact h
  dom := fun q h => by
    by_cases e : q = p
    · subst e; rw [upd_same]; exact fun z => nomatch z
    · rw [upd_ne e]; exact h
  tups := fun q vs h => by
    obtain ⟨u, e, n1, n2, _⟩ := S.there hp
    rcases h with h | h
    · refine .inl ?_
      rcases h with h | ⟨ob, h⟩
      · exact .inl (by rw [upd_ne (fun (z : q = p) => by rw [z, e] at h; cases h; exact n1 _ rfl)]; exact h)
      · exact .inr ⟨ob, by rw [upd_ne (fun (z : q = p) => by rw [z, e] at h; cases h; exact n2 _ _ rfl)]; exact h⟩
    · exact .inr h
theorem Sim.write {i : Nat} {p : Addr} {o : Ob} {u : HO} (S : Sim K m st H) (hi : m[i]? = some p) (ho : ObRel K m (upd H p u) p o) : Sim K m (st.set i o) (upd H p u) := by
  refine ⟨by simp [S.len], S.nd, fun j q ob h1 h2 => ?_⟩
  by_cases e : j = i
  · subst e
    rw [hi] at h1; cases h1
    have hl : j < st.length := by rw [← S.len]; exact (List.getElem?_eq_some_iff.mp hi).1
    rw [List.getElem?_set_self hl] at h2
    cases h2
    exact ho
  · rw [List.getElem?_set_ne (Ne.symm e)] at h2
    refine (S.ob j q ob h1 h2).sub (Step.write S (List.mem_of_getElem? hi)).sub ?_
    rw [upd_ne (fun (z : q = p) => e (nodup_get S.nd h1 (z ▸ hi)))]
end
end Mir
end part_Mir0
section part_Mir1
set_option maxHeartbeats 1000000
/-! Mir1: the judgements; expressions. -/
namespace Mir
open PySem PySem.Spec PyProof.Rows L2

abbrev RR (α β : Type) := Hp → List Addr → Hp → α → β → Prop
section
variable (K : PySem.W.Frag) (mg : Str → Option Value)
def rD : RR D V := fun _ m H d v => Rel K m H d v
def rB {α : Type} : RR α α := fun _ _ _ a b => a = b
def rL : RR (List D) (List V) := fun _ m H a b => RelL K m H a b
/-- a list that nobody else holds -/
def rT : RR (List D) V := fun H0 m H xs v => ∃ p vs, v = .ref p ∧ H0 p = none ∧ p ∉ m ∧ H p = some (.lst vs) ∧ RelL K m H xs vs
def PostR {α β : Type} (R : RR α β) (m : List Addr) (H : Hp) (Q : β → Hp → Prop) : α → Sto → Prop := fun a st' =>
  ∀ b m' H', Step K m H m' H' → Sim K m' st' H' → R H m' H' a b → Q b H'
def PostX (m : List Addr) (H : Hp) (E : XK) : Exn → Sto → Prop := fun x st' =>
  ∀ cls dd m' H', Step K m H m' H' → Sim K m' st' H' → RelX K mg m' H' x cls dd → E cls dd H'
/-- what is asked so that a mirror's answer is had -/
def tG {α β : Type} (R : RR α β) (W : WX) (F : En → M α) : SS → Hp → (β → Hp → Prop) → Prop := fun σ H Q =>
  ∃ m en st, Sim K m st H ∧ RelN K m H en σ ∧ (F en st).Wp (PostR K R m H Q) (PostX K mg m H (WE W σ))
def RMono {α β : Type} (R : RR α β) : Prop := ∀ m H m1 H1 m' H' a b, Step K m H m1 H1 → R H1 m' H' a b → R H m' H' a b
end
section
variable {K : PySem.W.Frag} {mg : Str → Option Value} {m m' m1 : List Addr} {H H' H1 : Hp} {st st' : Sto} {α β γ δ : Type}
theorem mono_D : RMono K (rD K) := fun _ _ _ _ _ _ _ _ _ h => h
theorem mono_B : RMono K (rB (α := α)) := fun _ _ _ _ _ _ _ _ _ h => h
theorem mono_L : RMono K (rL K) := fun _ _ _ _ _ _ _ _ _ h => h
theorem Step.none (s : Step K m H m1 H1) {p : Addr} (h : H1 p = none) : H p = none := by
  cases q : H p with
  | none => rfl
  | some o => exact absurd h (s.dom p (by rw [q]; exact fun z => nomatch z))
theorem mono_T : RMono K (rT K) := fun m H m1 H1 m' H' a b s ⟨p, vs, e, f, n, h, r⟩ => ⟨p, vs, e, s.none f, n, h, r⟩
theorem PostR.step {R : RR α β} (hm : RMono K R) (s : Step K m H m1 H1) {Q : β → Hp → Prop} {a : α} {st : Sto} (h : PostR K R m H Q a st) : PostR K R m1 H1 Q a st :=
  fun b m' H' s' S r => h b m' H' (s.trans s') S (hm _ _ _ _ _ _ _ _ s r)
theorem PostX.step (s : Step K m H m1 H1) {E : XK} {x : Exn} {st : Sto} (h : PostX K mg m H E x st) : PostX K mg m1 H1 E x st :=
  fun c d m' H' s' S r => h c d m' H' (s.trans s') S r
theorem RelX.some {x : Exn} {cls : Value} {dd : Option Addr} (h : RelX K mg m H x cls dd) : True := trivial

/-- one piece of a mirror behind another -/
theorem seq_wp {R : RR α β} {R2 : RR γ δ} (hm : RMono K R2) {W : WX} {F : En → M α} {G : α → M γ} {en : En} {σ : SS} {Q : δ → Hp → Prop} {P : β → Hp → Prop}
    (S : Sim K m st H) (N : RelN K m H en σ) (h : ((F en >>= G) st).Wp (PostR K R2 m H Q) (PostX K mg m H (WE W σ)))
    (k : ∀ m1 st1 a b H1, Step K m H m1 H1 → Sim K m1 st1 H1 → R H m1 H1 a b → RelN K m1 H1 en σ → (G a st1).Wp (PostR K R2 m1 H1 Q) (PostX K mg m1 H1 (WE W σ)) → P b H1) :
    tG K mg R W F σ H P := by
  refine ⟨m, en, st, S, N, wp_mono (wp_bind.mp h) (fun a st1 q b m1 H1 s1 S1 r => ?_) fun x st1 q => q⟩
  exact k m1 st1 a b H1 s1 S1 r (N.sub s1.sub) (wp_mono q (fun _ _ z => z.step hm s1) fun _ _ z => z.step s1)
end
theorem _root_.L2.PE.mirImp {X : Cx} {e : Expr} {t t' : TE} (h : PE X e t) (i : ∀ σ H Q, t' σ H Q → t σ H Q) : PE X e t' := ⟨fun pins s σ H Q I q => h.run pins s σ H Q I (i σ H Q q)⟩
theorem _root_.L2.PT.mirImp {X : Cx} {e : Expr} {t t' : TT} (h : PT X e t) (i : ∀ σ H Q, t' σ H Q → t σ H Q) : PT X e t' := ⟨fun pins s σ H Q I q => h.run pins s σ H Q I (i σ H Q q)⟩
theorem _root_.L2.PW.mirImp {X : Cx} {e : Expr} {t t' : TT} (h : PW X e t) (i : ∀ σ H Q, t' σ H Q → t σ H Q) : PW X e t' := ⟨fun w pins s σ H Q I q => h.run w pins s σ H Q I (i σ H Q q)⟩
theorem _root_.L2.PA.mirImp {X : Cx} {e : List Expr} {t t' : TA} (h : PA X e t) (i : ∀ σ H Q, t' σ H Q → t σ H Q) : PA X e t' := ⟨fun p pins s σ H Q I q => h.run p pins s σ H Q I (i σ H Q q)⟩
theorem _root_.L2.PK.mirImp {X : Cx} {e : List Keyword} {t t' : TA} (h : PK X e t) (i : ∀ σ H Q, t' σ H Q → t σ H Q) : PK X e t' := ⟨fun p pins s σ H Q I q => h.run p pins s σ H Q I (i σ H Q q)⟩
theorem _root_.L2.PS.mirImp {X : Cx} {e : Stmt} {t t' : TS} (h : PS X e t) (i : ∀ D σ H, t' D σ H → t D σ H) : PS X e t' := ⟨fun pins s σ H D I q => h.run pins s σ H D I (i D σ H q)⟩
theorem _root_.L2.PSs.mirImp {X : Cx} {e : List Stmt} {t t' : TS} (h : PSs X e t) (i : ∀ D σ H, t' D σ H → t D σ H) : PSs X e t' := ⟨fun pins s σ H D I q => h.run pins s σ H D I (i D σ H q)⟩
theorem _root_.L2.PE.mirOr {X : Cx} {e : Expr} {t t' : TE} (h : PE X e t) (h' : PE X e t') : PE X e (fun σ H Q => t σ H Q ∨ t' σ H Q) :=
  ⟨fun pins s σ H Q I q => q.elim (fun q => h.run pins s σ H Q I q) fun q => h'.run pins s σ H Q I q⟩

abbrev EvE (X : Cx) (W : WX) (e : Expr) (F : En → M D) : Prop := PE X e (tG X.K X.mg (rD X.K) W F)
abbrev EvT (X : Cx) (W : WX) (e : Expr) (F : En → M Bool) : Prop := PT X e (tG X.K X.mg rB W F)
abbrev EvW (X : Cx) (W : WX) (e : Expr) (F : En → M Bool) : Prop := PW X e (tG X.K X.mg rB W F)
abbrev EvA (X : Cx) (W : WX) (es : List Expr) (F : En → M (List D)) : Prop := PA X es (tG X.K X.mg (rL X.K) W F)
abbrev EvK (X : Cx) (W : WX) (es : List Keyword) (F : En → M (List D)) : Prop := PK X es (tG X.K X.mg (rL X.K) W F)
abbrev EvL (X : Cx) (W : WX) (e : Expr) (F : En → M (List D)) : Prop := PE X e (tG X.K X.mg (rT X.K) W F)

/-! ### names, constants -/
def look : Option (Option D) → M D
  | some (some d) => pure d
  | _ => bad
def fVar (i : Nat) : En → M D := fun en => look en[i]?
def fC (d : D) : En → M D := fun _ => pure d
section
variable {X : Cx} {W : WX} {pos : Pos}
theorem ev_var {i : Nat} {e : Expr} (h : PE X e (tVar i)) : EvE X W e (fVar i) := h.mirImp fun σ H Q ⟨m, en, st, S, N, q⟩ => by
  unfold fVar at q
  cases e : en[i]? with
  | none => rw [e] at q; exact (q : False).elim
  | some o =>
    rw [e] at q
    cases o with
    | none => exact (q : False).elim
    | some d =>
      obtain ⟨v, ev, r⟩ := N.get e
      exact ⟨v, ev, (wp_pure.mp q) v m H .refl S r⟩
/-- a constant, or a name of the module's that is one -/
theorem ev_c {e : Expr} {d : D} {v : V} (h : PE X e (tC v)) (r : ∀ m H, Rel X.K m H d v) : EvE X W e (fC d) := h.mirImp fun σ H Q ⟨m, en, st, S, N, q⟩ =>
  (wp_pure.mp q) v m H .refl S (r m H)
theorem ev_int {i : Int} {j : Nat} : EvE X W (.Constant (.int i) j pos) (fC (.int i)) := ev_c pe_int fun _ _ => rfl
theorem ev_bl {b : Bool} {j : Nat} : EvE X W (.Constant (.bool b) j pos) (fC (.bl b)) := ev_c pe_bl fun _ _ => rfl
theorem ev_non {j : Nat} : EvE X W (.Constant .none j pos) (fC .non) := ev_c pe_non fun _ _ => rfl
theorem ev_str {x : Str} {j : Nat} : EvE X W (.Constant (.str x) j pos) (fC (.str x)) := ev_c pe_str fun _ _ => rfl

/-! ### operators -/
def fOp (g : D → D → M D) (a b : En → M D) : En → M D := fun en => a en >>= fun x => b en >>= fun y => g x y
def fUn (g : D → M D) (a : En → M D) : En → M D := fun en => a en >>= fun x => g x
/-- a mirror's answer is had by a rule of the values -/
def OpM (K : PySem.W.Frag) (r : R2) (g : D → D → M D) : Prop := ∀ m st H dx dy x y Q, Sim K m st H → Rel K m H dx x → Rel K m H dy y →
  (g dx dy st).Wp (PostR K (rD K) m H Q) (fun _ _ => False) → r x y H Q
def UnM (K : PySem.W.Frag) (r : V → Hp → VK → Prop) (g : D → M D) : Prop := ∀ m st H dx x Q, Sim K m st H → Rel K m H dx x →
  (g dx st).Wp (PostR K (rD K) m H Q) (fun _ _ => False) → r x H Q
/-- g lets no error out -/
def Calm {α : Type} (g : M α) : Prop := ∀ st, ∀ x st', g st ≠ .err x st'
theorem wp_calm {α : Type} {g : M α} {st : Sto} {Q : α → Sto → Prop} {E E' : Exn → Sto → Prop} (c : Calm g) (h : (g st).Wp Q E) : (g st).Wp Q E' := by
  cases e : g st with
  | ok a st' => rw [e] at h; exact h
  | err x st' => exact absurd e (c st x st')
  | bad => rw [e] at h; exact h
theorem tOp_of {r : R2} {g : D → D → M D} {Fa Fb : En → M D} {σ : SS} {H : Hp} {Q : VK} (ho : OpM X.K r g) (hc : ∀ x y, Calm (g x y)) (h : tG X.K X.mg (rD X.K) W (fOp g Fa Fb) σ H Q) :
    tOp r (tG X.K X.mg (rD X.K) W Fa) (tG X.K X.mg (rD X.K) W Fb) σ H Q := by
  obtain ⟨m, en, st, S, N, q⟩ := h
  refine seq_wp mono_D S N q fun m1 st1 dx x H1 s1 S1 rx N1 q1 => ?_
  refine seq_wp mono_D S1 N1 q1 fun m2 st2 dy y H2 s2 S2 ry N2 q2 => ?_
  exact ho m2 st2 H2 dx dy x y Q S2 (Rel.sub s2.sub rx) ry (wp_calm (hc dx dy) q2)
theorem ev_op {op : Operator} {r : R2} {g : D → D → M D} {a b : Expr} {Fa Fb : En → M D} (ho : OpR X (binaryOp op) r) (hg : OpM X.K r g) (hc : ∀ x y, Calm (g x y)) (ha : EvE X W a Fa) (hb : EvE X W b Fb) : EvE X W (.BinOp a op b pos) (fOp g Fa Fb) :=
  (pe_op ho ha hb).mirImp fun σ H Q h => tOp_of hg hc h
theorem ev_cmp {op : CmpOp} {r : R2} {g : D → D → M D} {a b : Expr} {Fa Fb : En → M D} (ho : OpR X (compareOp op) r) (hg : OpM X.K r g) (hc : ∀ x y, Calm (g x y)) (ha : EvE X W a Fa) (hb : EvE X W b Fb)
    (hm : behindInMarks op b = false) : EvE X W (.Compare a [op] [b] pos) (fOp g Fa Fb) :=
  (pe_cmpR ho ha hb hm).mirImp fun σ H Q h => tOp_of hg hc h
theorem ev_un {op : UnaryOp} {r : V → Hp → VK → Prop} {g : D → M D} {a : Expr} {Fa : En → M D} (ho : UnR X (unaryOp op) r) (hg : UnM X.K r g) (hc : ∀ x, Calm (g x)) (ha : EvE X W a Fa) : EvE X W (.UnaryOp op a pos) (fUn g Fa) :=
  (pe_un ho ha).mirImp fun σ H Q ⟨m, en, st, S, N, q⟩ => seq_wp mono_D S N q fun m1 st1 dx x H1 s1 S1 rx N1 q1 => hg m1 st1 H1 dx x Q S1 rx (wp_calm (hc dx) q1)

/-! ### tests -/
def asB (d : D) : M Bool := match d with
  | .bl b => pure b
  | _ => bad
/-- a value as a test -/
def tE (F : En → M D) : En → M Bool := fun en => F en >>= asB
def tAndM (a b : En → M Bool) : En → M Bool := fun en => a en >>= fun c => if c = true then b en else pure false
def tOrM (a b : En → M Bool) : En → M Bool := fun en => a en >>= fun c => if c = true then pure true else b en
def tNotM (a : En → M Bool) : En → M Bool := fun en => a en >>= fun c => pure (!c)
theorem tB_of {F : En → M D} {σ : SS} {H : Hp} {Q : Bool → Hp → Prop} (h : tG X.K X.mg rB W (tE F) σ H Q) : L2.tB (tG X.K X.mg (rD X.K) W F) σ H Q := by
  obtain ⟨m, en, st, S, N, q⟩ := h
  refine seq_wp mono_B S N q fun m1 st1 d x H1 s1 S1 r N1 q1 => ?_
  unfold asB at q1
  split at q1
  · cases r
    exact ⟨_, rfl, (wp_pure.mp q1) _ m1 H1 .refl S1 rfl⟩
  · exact (q1 : False).elim
theorem et_val {e : Expr} {F : En → M D} (h : EvE X W e F) (he : ∀ whole, isTrue e X.env whole = (do let v ← whole; standAt e.pos; holding [v] (truthy v)) := by intro _; rfl) : EvT X W e (tE F) :=
  (pt_val h he).mirImp fun σ H Q h => tB_of h
theorem et_cmp {op : CmpOp} {r : R2} {g : D → D → M D} {a b : Expr} {Fa Fb : En → M D} (ho : OpR X (compareOp op) r) (hg : OpM X.K r g) (hc : ∀ x y, Calm (g x y)) (ha : EvE X W a Fa) (hb : EvE X W b Fb)
    (hm : behindInMarks op b = false) : EvT X W (.Compare a [op] [b] pos) (tE (fOp g Fa Fb)) :=
  (pt_cmpR ho ha hb hm).mirImp fun σ H Q h => by
    obtain ⟨m, en, st, S, N, q⟩ := h
    refine tOp_of hg hc (seq_wp mono_B S N q fun m1 st1 d x H1 s1 S1 r N1 q1 => ?_)
    unfold asB at q1
    split at q1
    · cases r
      exact ⟨_, rfl, (wp_pure.mp q1) _ m1 H1 .refl S1 rfl⟩
    · exact (q1 : False).elim
theorem ew_t {e : Expr} {F : En → M Bool} (h : EvW X W e F) : EvT X W e F := h.pt
theorem ew_and1 {a : Expr} {F : En → M Bool} (h : EvT X W a F) : EvW X W (.BoolOp .And [a] pos) F := pw_and1 h
theorem ew_or1 {a : Expr} {F : En → M Bool} (h : EvT X W a F) : EvW X W (.BoolOp .Or [a] pos) F := pw_or1 h
theorem ew_and {a b : Expr} {r : List Expr} {F G : En → M Bool} (h : EvT X W a F) (h2 : EvW X W (.BoolOp .And (b :: r) pos) G) : EvW X W (.BoolOp .And (a :: b :: r) pos) (tAndM F G) :=
  (pw_and h h2).mirImp fun σ H Q ⟨m, en, st, S, N, q⟩ => seq_wp mono_B S N q fun m1 st1 c c' H1 s1 S1 e N1 q1 => by
    cases (e : c = c')
    cases c with
    | true => exact ⟨m1, en, st1, S1, N1, q1⟩
    | false => exact (wp_pure.mp q1) _ m1 H1 .refl S1 rfl
theorem ew_or {a b : Expr} {r : List Expr} {F G : En → M Bool} (h : EvT X W a F) (h2 : EvW X W (.BoolOp .Or (b :: r) pos) G) : EvW X W (.BoolOp .Or (a :: b :: r) pos) (tOrM F G) :=
  (pw_or h h2).mirImp fun σ H Q ⟨m, en, st, S, N, q⟩ => seq_wp mono_B S N q fun m1 st1 c c' H1 s1 S1 e N1 q1 => by
    cases (e : c = c')
    cases c with
    | true => exact (wp_pure.mp q1) _ m1 H1 .refl S1 rfl
    | false => exact ⟨m1, en, st1, S1, N1, q1⟩
theorem et_not {a : Expr} {F : En → M Bool} (h : EvT X W a F) : EvT X W (.UnaryOp .Not a pos) (tNotM F) :=
  (pt_not h).mirImp fun σ H Q ⟨m, en, st, S, N, q⟩ => seq_wp mono_B S N q fun m1 st1 c c' H1 s1 S1 e N1 q1 => by
    cases (e : c = c')
    exact (wp_pure.mp q1) _ m1 H1 .refl S1 rfl

/-! ### values by tests -/
def fIf (c : En → M Bool) (a b : En → M D) : En → M D := fun en => c en >>= fun k => if k = true then a en else b en
def fAnd (a b : En → M D) : En → M D := fun en => a en >>= fun d => match d with
  | .bl true => b en
  | .bl false => pure (.bl false)
  | _ => bad
def fOr (a b : En → M D) : En → M D := fun en => a en >>= fun d => match d with
  | .bl true => pure (.bl true)
  | .bl false => b en
  | _ => bad
def gNot : D → M D
  | .bl b => pure (.bl (!b))
  | _ => bad
theorem ev_if {c a b : Expr} {Fc : En → M Bool} {Fa Fb : En → M D} (hc : EvT X W c Fc) (ha : EvE X W a Fa) (hb : EvE X W b Fb) : EvE X W (.IfExp c a b pos) (fIf Fc Fa Fb) :=
  (pe_ifExp hc ha hb).mirImp fun σ H Q ⟨m, en, st, S, N, q⟩ => seq_wp mono_D S N q fun m1 st1 c c' H1 s1 S1 e N1 q1 => by
    cases (e : c = c')
    cases c with
    | true => exact ⟨m1, en, st1, S1, N1, q1⟩
    | false => exact ⟨m1, en, st1, S1, N1, q1⟩
theorem ev_one {op : BoolOp} {a : Expr} {F : En → M D} (h : EvE X W a F) : EvE X W (.BoolOp op [a] pos) F := pe_one h
theorem ev_and {a b : Expr} {r : List Expr} {F G : En → M D} (h : EvE X W a F) (h2 : EvE X W (.BoolOp .And (b :: r) pos) G) : EvE X W (.BoolOp .And (a :: b :: r) pos) (fAnd F G) :=
  (pe_and h h2).mirImp fun σ H Q ⟨m, en, st, S, N, q⟩ => seq_wp mono_D S N q fun m1 st1 d x H1 s1 S1 r N1 q1 => by
    split at q1
    · cases r
      exact ⟨_, rfl, ⟨m1, en, st1, S1, N1, q1⟩⟩
    · cases r
      exact ⟨_, rfl, (wp_pure.mp q1) _ m1 H1 .refl S1 rfl⟩
    · exact (q1 : False).elim
theorem ev_or {a b : Expr} {r : List Expr} {F G : En → M D} (h : EvE X W a F) (h2 : EvE X W (.BoolOp .Or (b :: r) pos) G) : EvE X W (.BoolOp .Or (a :: b :: r) pos) (fOr F G) :=
  (pe_or h h2).mirImp fun σ H Q ⟨m, en, st, S, N, q⟩ => seq_wp mono_D S N q fun m1 st1 d x H1 s1 S1 r N1 q1 => by
    split at q1
    · cases r
      exact ⟨_, rfl, (wp_pure.mp q1) _ m1 H1 .refl S1 rfl⟩
    · cases r
      exact ⟨_, rfl, ⟨m1, en, st1, S1, N1, q1⟩⟩
    · exact (q1 : False).elim
theorem ev_not {a : Expr} {F : En → M D} (h : EvE X W a F) : EvE X W (.UnaryOp .Not a pos) (fUn gNot F) :=
  (pe_not h).mirImp fun σ H Q ⟨m, en, st, S, N, q⟩ => seq_wp mono_D S N q fun m1 st1 d x H1 s1 S1 r N1 q1 => by
    unfold gNot at q1
    split at q1
    · cases r
      exact ⟨_, rfl, (wp_pure.mp q1) _ m1 H1 .refl S1 rfl⟩
    · exact (q1 : False).elim

/-! ### argument lists, tuples, lists -/
def aNil : En → M (List D) := fun _ => pure []
def aCons (a : En → M D) (r : En → M (List D)) : En → M (List D) := fun en => a en >>= fun d => r en >>= fun ds => pure (d :: ds)
theorem ea_nil : EvA X W [] aNil := pa_nil.mirImp fun σ H Q ⟨m, en, st, S, N, q⟩ => (wp_pure.mp q) _ m H .refl S rfl
theorem ea_cons {e : Expr} {es : List Expr} {F : En → M D} {G : En → M (List D)} (h : EvE X W e F) (h2 : EvA X W es G) (hs : starEach (e :: es) X.env = (false, eval e X.env) :: starEach es X.env := by rfl) : EvA X W (e :: es) (aCons F G) :=
  (pa_cons h h2 hs).mirImp fun σ H Q ⟨m, en, st, S, N, q⟩ => by
    refine seq_wp mono_L S N q fun m1 st1 d x H1 s1 S1 r N1 q1 => ?_
    refine seq_wp mono_L S1 N1 q1 fun m2 st2 ds xs H2 s2 S2 r2 N2 q2 => ?_
    exact (wp_pure.mp q2) _ m2 H2 .refl S2 ⟨_, _, rfl, Rel.sub s2.sub r, r2⟩
theorem ek_nil : EvK X W [] aNil := pk_nil.mirImp fun σ H Q ⟨m, en, st, S, N, q⟩ => (wp_pure.mp q) _ m H .refl S rfl
theorem ek_cons {nm : Option Str} {e : Expr} {kpos : Pos} {es : List Keyword} {F : En → M D} {G : En → M (List D)} (h : EvE X W e F) (h2 : EvK X W es G) : EvK X W (⟨nm, e, kpos⟩ :: es) (aCons F G) :=
  (pk_cons h h2).mirImp fun σ H Q ⟨m, en, st, S, N, q⟩ => by
    refine seq_wp mono_L S N q fun m1 st1 d x H1 s1 S1 r N1 q1 => ?_
    refine seq_wp mono_L S1 N1 q1 fun m2 st2 ds xs H2 s2 S2 r2 N2 q2 => ?_
    exact (wp_pure.mp q2) _ m2 H2 .refl S2 ⟨_, _, rfl, Rel.sub s2.sub r, r2⟩
def within (n : Nat) : M Unit := if n ≤ sizeLine then pure () else bad
theorem wp_within {n : Nat} {st : Sto} {Q : Unit → Sto → Prop} {E : Exn → Sto → Prop} : (within n st).Wp Q E ↔ n ≤ sizeLine ∧ Q () st := by
  unfold within
  split
  · rename_i h; exact ⟨fun q => ⟨h, q⟩, fun q => q.2⟩
  · rename_i h; exact ⟨fun q => q.elim, fun q => h q.1⟩
def gTupD (ds : List D) : M D := within ds.length >>= fun _ => pure (.tup ds)
def fTup (F : En → M (List D)) : En → M D := fun en => F en >>= gTupD
def fLst (F : En → M (List D)) : En → M (List D) := fun en => F en >>= fun ds => within ds.length >>= fun _ => pure ds
theorem ev_tup {es : List Expr} {x1 : Nat} {F : En → M (List D)} (h : EvA X W es F) : EvE X W (.Tuple es x1 pos) (fTup F) :=
  (pe_tup h).mirImp fun σ H Q ⟨m, en, st, S, N, q⟩ => seq_wp mono_D S N q fun m1 st1 ds vs H1 s1 S1 r N1 q1 => by
    obtain ⟨hz, q2⟩ := wp_within.mp (wp_bind.mp q1)
    have hl : ds.length = vs.length := RelL.length r
    exact ⟨hl ▸ hz, fun p hp => (wp_pure.mp q2) _ m1 _ (Step.new hp) (S1.new hp) ⟨p, vs, rfl, SqT.of upd_same, RelL.sub (Step.new hp).sub r⟩⟩
theorem el_lst {es : List Expr} {F : En → M (List D)} (h : EvA X W es F) : EvL X W (.List es pos) (fLst F) :=
  (pe_lst h).mirImp fun σ H Q ⟨m, en, st, S, N, q⟩ => seq_wp mono_T S N q fun m1 st1 ds vs H1 s1 S1 r N1 q1 => by
    obtain ⟨hz, q2⟩ := wp_within.mp (wp_bind.mp q1)
    have hl : ds.length = vs.length := RelL.length r
    exact ⟨hl ▸ hz, fun p hp => (wp_pure.mp q2) _ m1 _ (Step.new hp) (S1.new hp) ⟨p, vs, rfl, hp, S1.fresh hp, upd_same, RelL.sub (Step.new hp).sub r⟩⟩
/-- a new list under a number -/
def alloc (o : Ob) : M D := fun st => .ok (.ref st.length) (st ++ [o])
def fNew (F : En → M (List D)) : En → M D := fun en => F en >>= fun ds => alloc (.lst ds)
theorem ev_new {e : Expr} {F : En → M (List D)} (h : EvL X W e F) : EvE X W e (fNew F) :=
  h.mirImp fun σ H Q ⟨m, en, st, S, N, q⟩ => by
    refine ⟨m, en, st, S, N, wp_mono (wp_bind.mp q) (fun ds st1 q1 v m1 H1 s1 S1 r => ?_) fun _ _ z => z⟩
    obtain ⟨p, vs, rfl, h0, hn, hp, rl⟩ := r
    refine q1 (.ref p) (m1 ++ [p]) H1 (s1.take h0) (S1.take hn ⟨vs, hp, rl⟩) ⟨p, ?_, rfl⟩
    rw [← S1.len, List.getElem?_append_right (Nat.le_refl _)]
    simp
end
end Mir
end part_Mir1
section part_Mir2
set_option maxHeartbeats 1000000
/-! Mir2: statements, targets, loops, defs. -/
namespace Mir
open PySem PySem.Spec PyProof.Rows L2

inductive Fl where
  | nx | bk | ct | rt (d : D)
inductive OutS where
  | ok (f : Fl) (en : En) (st : Sto) | err (x : Exn) (en : En) (st : Sto) | bad
abbrev FS := En → Sto → OutS
def OutS.Wp (o : OutS) (Q : Fl → En → Sto → Prop) (E : Exn → En → Sto → Prop) : Prop := match o with
  | .ok f en st => Q f en st
  | .err x en st => E x en st
  | .bad => False
theorem wps_mono {o : OutS} {Q Q' : Fl → En → Sto → Prop} {E E' : Exn → En → Sto → Prop} (h : o.Wp Q E) (hq : ∀ f en st, Q f en st → Q' f en st) (he : ∀ x en st, E x en st → E' x en st) : o.Wp Q' E' := by
  cases o with
  | ok f en st => exact hq _ _ _ h
  | err x en st => exact he _ _ _ h
  | bad => exact h
theorem okS {f : Fl} {en : En} {st : Sto} {Q : Fl → En → Sto → Prop} {E : Exn → En → Sto → Prop} (h : (OutS.ok f en st).Wp Q E) : Q f en st := h
section
variable (K : PySem.W.Frag) (mg : Str → Option Value)
def PostS (m : List Addr) (H : Hp) (D : Ends) : Fl → En → Sto → Prop
  | .nx, en', st' => ∀ σ' m' H', Step K m H m' H' → Sim K m' st' H' → RelN K m' H' en' σ' → D.nx σ' H'
  | .bk, en', st' => ∀ σ' m' H', Step K m H m' H' → Sim K m' st' H' → RelN K m' H' en' σ' → D.bk σ' H'
  | .ct, en', st' => ∀ σ' m' H', Step K m H m' H' → Sim K m' st' H' → RelN K m' H' en' σ' → D.ct σ' H'
  | .rt d, _, st' => PostR K (rD K) m H D.rt d st'
def PostSX (m : List Addr) (H : Hp) (W : WX) : Exn → En → Sto → Prop := fun x en' st' =>
  ∀ cls dd σ' m' H', Step K m H m' H' → Sim K m' st' H' → RelN K m' H' en' σ' → RelX K mg m' H' x cls dd → W cls dd σ' H'
def tS (W : WX) (F : FS) : TS := fun D σ H => ∃ m en st, Sim K m st H ∧ RelN K m H en σ ∧ (F en st).Wp (PostS K m H D) (PostSX K mg m H W)
end
section
variable {K : PySem.W.Frag} {mg : Str → Option Value} {m m' m1 : List Addr} {H H' H1 : Hp} {st st' : Sto}
theorem PostS.step {D : Ends} {f : Fl} {en : En} {st : Sto} (s : Step K m H m1 H1) (h : PostS K m H D f en st) : PostS K m1 H1 D f en st := by
  cases f with
  | nx => exact fun σ' m' H' s' S N => h σ' m' H' (s.trans s') S N
  | bk => exact fun σ' m' H' s' S N => h σ' m' H' (s.trans s') S N
  | ct => exact fun σ' m' H' s' S N => h σ' m' H' (s.trans s') S N
  | rt d => exact PostR.step mono_D s h
theorem PostSX.step {W : WX} {x : Exn} {en : En} {st : Sto} (s : Step K m H m1 H1) (h : PostSX K mg m H W x en st) : PostSX K mg m1 H1 W x en st :=
  fun c d σ' m' H' s' S N r => h c d σ' m' H' (s.trans s') S N r
end
abbrev EvS (X : Cx) (W : WX) (s : Stmt) (F : FS) : Prop := PS X s (tS X.K X.mg W F)
abbrev EvB (X : Cx) (W : WX) (ss : List Stmt) (F : FS) : Prop := PSs X ss (tS X.K X.mg W F)

/-- an expression ahead of what follows -/
def lift {α : Type} (F : M α) (k : α → FS) : FS := fun en st => match F st with
  | .ok a st' => k a en st'
  | .err x st' => .err x en st'
  | .bad => .bad
section
variable {K : PySem.W.Frag} {mg : Str → Option Value} {m m' m1 : List Addr} {H H' H1 : Hp} {st st' : Sto} {α β : Type}
theorem wps_lift {F : M α} {k : α → FS} {en : En} {Q : Fl → En → Sto → Prop} {E : Exn → En → Sto → Prop} : (lift F k en st).Wp Q E ↔ (F st).Wp (fun a st' => (k a en st').Wp Q E) (fun x st' => E x en st') := by
  unfold lift
  cases F st <;> exact Iff.rfl
theorem lift_wp {R : RR α β} {W : WX} {F : En → M α} {k : α → FS} {en : En} {σ : SS} {D : Ends} {P : β → Hp → Prop}
    (S : Sim K m st H) (N : RelN K m H en σ) (h : (lift (F en) k en st).Wp (PostS K m H D) (PostSX K mg m H W))
    (c : ∀ m1 st1 a b H1, Step K m H m1 H1 → Sim K m1 st1 H1 → R H m1 H1 a b → RelN K m1 H1 en σ → (k a en st1).Wp (PostS K m1 H1 D) (PostSX K mg m1 H1 W) → P b H1) :
    tG K mg R W F σ H P := by
  refine ⟨m, en, st, S, N, wp_mono (wps_lift.mp h) (fun a st1 q b m1 H1 s1 S1 r => ?_) fun x st1 q cls dd m1 H1 s1 S1 r => q cls dd σ m1 H1 s1 S1 (N.sub s1.sub) r⟩
  exact c m1 st1 a b H1 s1 S1 r (N.sub s1.sub) (wps_mono q (fun _ _ _ z => z.step s1) fun _ _ _ z => z.step s1)
end

/-! ### blocks -/
def sNx : FS := fun en st => .ok .nx en st
def sSeq (f g : FS) : FS := fun en st => match f en st with
  | .ok .nx en' st' => g en' st'
  | o => o
section
variable {X : Cx} {W : WX} {pos : Pos}
theorem eb_nil : EvB X W [] sNx := pss_nil.mirImp fun D σ H ⟨m, en, st, S, N, q⟩ => (okS q) σ m H .refl S N
theorem tSeq_of {f g : FS} {D : Ends} {σ : SS} {H : Hp} (h : tS X.K X.mg W (sSeq f g) D σ H) : tSeq (tS X.K X.mg W f) (tS X.K X.mg W g) D σ H := by
  obtain ⟨m, en, st, S, N, q⟩ := h
  refine ⟨m, en, st, S, N, ?_⟩
  unfold sSeq at q
  cases e : f en st with
  | bad => rw [e] at q; exact q
  | err x en' st' => rw [e] at q; exact q
  | ok fl en' st' =>
    rw [e] at q
    cases fl with
    | nx => exact fun σ' m' H' s' S' N' => ⟨m', en', st', S', N', wps_mono q (fun _ _ _ z => z.step s') fun _ _ _ z => z.step s'⟩
    | bk => exact q
    | ct => exact q
    | rt d => exact q
theorem eb_cons {s : Stmt} {ss : List Stmt} {f g : FS} (h : EvS X W s f) (h2 : EvB X W ss g) : EvB X W (s :: ss) (sSeq f g) := (pss_cons h h2).mirImp fun D σ H h => tSeq_of h
theorem eb_one {s : Stmt} {f : FS} (h : EvS X W s f) : EvB X W [s] f := pss_one h
def sExpr (F : En → M D) : FS := fun en => lift (F en) (fun _ => sNx) en
def sRet (F : En → M D) : FS := fun en => lift (F en) (fun d en st => .ok (.rt d) en st) en
def sRetN : FS := fun en st => .ok (.rt .non) en st
def sIf (c : En → M Bool) (a b : FS) : FS := fun en => lift (c en) (fun k => if k = true then a else b) en
def sBk : FS := fun en st => .ok .bk en st
def sCt : FS := fun en st => .ok .ct en st
theorem es_pass : EvS X W (.Pass pos) sNx := ps_pass.mirImp fun D σ H ⟨m, en, st, S, N, q⟩ => (okS q) σ m H .refl S N
theorem es_break : EvS X W (.Break pos) sBk := ps_break.mirImp fun D σ H ⟨m, en, st, S, N, q⟩ => (okS q) σ m H .refl S N
theorem es_continue : EvS X W (.Continue pos) sCt := ps_continue.mirImp fun D σ H ⟨m, en, st, S, N, q⟩ => (okS q) σ m H .refl S N
theorem es_expr {e : Expr} {F : En → M D} (h : EvE X W e F) (hs : swapsWith e none pos.line X.env = pure false := by rfl) : EvS X W (.Expr e pos) (sExpr F) :=
  (ps_expr h hs).mirImp fun D σ H ⟨m, en, st, S, N, q⟩ => lift_wp S N q fun m1 st1 a b H1 s1 S1 r N1 q1 => (okS q1) σ m1 H1 .refl S1 N1
theorem es_ret {e : Expr} {F : En → M D} (h : EvE X W e F) : EvS X W (.Return (some e) pos) (sRet F) :=
  (ps_ret h).mirImp fun D σ H ⟨m, en, st, S, N, q⟩ => lift_wp S N q fun m1 st1 a b H1 s1 S1 r N1 q1 => (okS q1) b m1 H1 .refl S1 r
theorem es_retN : EvS X W (.Return none pos) sRetN := ps_retN.mirImp fun D σ H ⟨m, en, st, S, N, q⟩ => (okS q) .non m H .refl S rfl
theorem es_if {c : Expr} {a b : List Stmt} {Fc : En → M Bool} {Fa Fb : FS} (hc : EvT X W c Fc) (ha : EvB X W a Fa) (hb : EvB X W b Fb) : EvS X W (.If c a b pos) (sIf Fc Fa Fb) :=
  (ps_if hc ha hb).mirImp fun D σ H ⟨m, en, st, S, N, q⟩ => lift_wp S N q fun m1 st1 a b H1 s1 S1 r N1 q1 => by
    cases (r : a = b)
    cases a with
    | true => exact ⟨m1, en, st1, S1, N1, q1⟩
    | false => exact ⟨m1, en, st1, S1, N1, q1⟩
/-- code that is never come to -/
theorem es_never {s : Stmt} : EvS X W s (fun _ _ => .bad) := ps_never.mirImp fun D σ H ⟨m, en, st, S, N, q⟩ => (q : False).elim

/-! ### targets -/
end
section
variable (K : PySem.W.Frag)
def PostE (m : List Addr) (H : Hp) (Q : SS → Hp → Prop) : En → Sto → Prop := fun en' st' => ∀ σ' m' H', Step K m H m' H' → Sim K m' st' H' → RelN K m' H' en' σ' → Q σ' H'
def tGt (G : D → En → M En) : TG := fun v σ H Q => ∃ m en st d, Sim K m st H ∧ RelN K m H en σ ∧ Rel K m H d v ∧ (G d en st).Wp (PostE K m H Q) (fun _ _ => False)
def tGts (G : List D → En → M En) : TGs := fun vs σ H Q => ∃ m en st ds, Sim K m st H ∧ RelN K m H en σ ∧ RelL K m H ds vs ∧ (G ds en st).Wp (PostE K m H Q) (fun _ _ => False)
end
theorem _root_.L2.PG.mirImp {X : Cx} {e : Expr} {t t' : TG} (h : PG X e t) (i : ∀ v σ H Q, t' v σ H Q → t v σ H Q) : PG X e t' := ⟨fun pins s σ H v u Q I r q => h.run pins s σ H v u Q I r (i v σ H Q q)⟩
theorem _root_.L2.PGs.mirImp {X : Cx} {e : List Expr} {t t' : TGs} (h : PGs X e t) (i : ∀ v σ H Q, t' v σ H Q → t v σ H Q) : PGs X e t' := ⟨fun pins s σ H v u Q I r q => h.run pins s σ H v u Q I r (i v σ H Q q)⟩
abbrev EvG (X : Cx) (e : Expr) (G : D → En → M En) : Prop := PG X e (tGt X.K G)
abbrev EvGs (X : Cx) (e : List Expr) (G : List D → En → M En) : Prop := PGs X e (tGts X.K G)
section
variable {K : PySem.W.Frag} {m m1 : List Addr} {H H1 : Hp}
theorem PostE.step {Q : SS → Hp → Prop} {en : En} {st : Sto} (s : Step K m H m1 H1) (h : PostE K m H Q en st) : PostE K m1 H1 Q en st := fun σ' m' H' s' S N => h σ' m' H' (s.trans s') S N
end
def gtName (i : Nat) : D → En → M En := fun d en => pure (en.set i (some d))
def gtNil : List D → En → M En := fun ds en => match ds with
  | [] => pure en
  | _ => bad
def gtCons (g : D → En → M En) (r : List D → En → M En) : List D → En → M En := fun ds en => match ds with
  | [] => bad
  | d :: ds => g d en >>= fun en' => r ds en'
def gtTup (n : Nat) (g : List D → En → M En) : D → En → M En := fun d en => match d with
  | .tup ds => if ds.length = n then g ds en else bad
  | _ => bad
section
variable {X : Cx} {W : WX} {pos : Pos}
theorem eg_name {i : Nat} {x : Str} (h : PG X (.Name x pos) (gName i)) : EvG X (.Name x pos) (gtName i) := h.mirImp fun v σ H Q ⟨m, en, st, d, S, N, r, q⟩ => (wp_pure.mp q) _ m H .refl S (N.set r i)
theorem egs_nil : EvGs X [] gtNil := pgs_nil.mirImp fun v σ H Q ⟨m, en, st, ds, S, N, r, q⟩ => by
  cases ds with
  | nil => exact ⟨r, (wp_pure.mp q) _ m H .refl S N⟩
  | cons d ds => exact (q : False).elim
theorem egs_cons {e : Expr} {es : List Expr} {g : D → En → M En} {r : List D → En → M En} (h : EvG X e g) (h2 : EvGs X es r) (hs : (assignEach (e :: es) X.env).map (·.2) = assign e X.env :: (assignEach es X.env).map (·.2) := by rfl) : EvGs X (e :: es) (gtCons g r) :=
  (pgs_cons h h2 hs).mirImp fun v σ H Q ⟨m, en, st, ds, S, N, rl, q⟩ => by
    cases ds with
    | nil => exact (q : False).elim
    | cons d ds =>
      obtain ⟨x, xs, rfl, r1, r2⟩ := rl
      refine ⟨x, xs, rfl, m, en, st, d, S, N, r1, wp_mono (wp_bind.mp q) (fun en' st' q1 σ' m' H' s' S' N' => ?_) fun _ _ z => z⟩
      exact ⟨m', en', st', ds, S', N', RelL.sub s'.sub r2, wp_mono q1 (fun _ _ z => z.step s') fun _ _ z => z⟩
theorem eg_tup {e : Expr} {n : Nat} {g : List D → En → M En} (h : PG X e (gTup X.K n (tGts X.K g))) : EvG X e (gtTup n g) := h.mirImp fun v σ H Q ⟨m, en, st, d, S, N, r, q⟩ => by
  unfold gtTup at q
  split at q
  · split at q
    · rename_i ds hl
      obtain ⟨p, vs, rfl, t, rl⟩ := r
      exact ⟨p, vs, rfl, t, (RelL.length rl).symm.trans hl, m, en, st, ds, S, N, rl, q⟩
    · exact (q : False).elim
  · exact (q : False).elim
def sAsg (F : En → M D) (g : D → En → M En) : FS := fun en => lift (F en) (fun d en st => match g d en st with
  | .ok en' st' => .ok .nx en' st'
  | _ => .bad) en
theorem tAsg_of {F : En → M D} {g : D → En → M En} {D : Ends} {σ : SS} {H : Hp} (h : tS X.K X.mg W (sAsg F g) D σ H) : tAsg (tG X.K X.mg (rD X.K) W F) (tGt X.K g) D σ H := by
  obtain ⟨m, en, st, S, N, q⟩ := h
  refine lift_wp S N q fun m1 st1 d v H1 s1 S1 r N1 q1 => ⟨m1, en, st1, d, S1, N1, r, ?_⟩
  cases e : g d en st1 with
  | ok en' st' => simp only [e] at q1; exact q1
  | err x st' => simp only [e] at q1; exact q1.elim
  | bad => simp only [e] at q1; exact q1.elim
theorem es_asg {tg e : Expr} {F : En → M D} {g : D → En → M En} (he : EvE X W e F) (hg : EvG X tg g) (hs : swapsWithSole [tg] e pos.line X.env = pure false := by rfl) (hw : swappedStores [tg] e X.env = pure none := by rfl) (h1 : (assignEach [tg] X.env).map (·.2) = [assign tg X.env] := by rfl) :
    EvS X W (.Assign [tg] e pos) (sAsg F g) := (ps_asg he hg hs hw h1).mirImp fun D σ H h => tAsg_of h

/-! ### what a loop walks -/
def listAt (st : Sto) (i : Nat) : Option (List D) := match st[i]? with
  | some (.lst xs) => some xs
  | some (.ro xs) => some xs
  | _ => none
/-- the walked lists stand as they stood -/
abbrev Watch := List (Nat × List D)
def stays (w : Watch) (st : Sto) : Prop := ∀ q ∈ w, listAt st q.1 = some q.2
end
structure ItOk (K : PySem.W.Frag) (m : List Addr) (H : Hp) (J : It) (xs : List D) (w : Watch) : Prop where
  go : ∀ m1 st1 H1 i, Step K m H m1 H1 → Sim K m1 st1 H1 → stays w st1 → i < xs.length → J.go i H1
  yld : ∀ m1 st1 H1 i d x H2, Step K m H m1 H1 → Sim K m1 st1 H1 → stays w st1 → xs[i]? = some d → J.yld i H1 x H2 → Step K m1 H1 m1 H2 ∧ Sim K m1 st1 H2 ∧ Rel K m1 H2 d x
  stop : ∀ m1 st1 H1 i, Step K m H m1 H1 → Sim K m1 st1 H1 → stays w st1 → xs.length ≤ i → J.stop i H1
theorem ItOk.step {K : PySem.W.Frag} {m m' : List Addr} {H H' : Hp} {J : It} {xs : List D} {w : Watch} (s : Step K m H m' H') (h : ItOk K m H J xs w) : ItOk K m' H' J xs w :=
  ⟨fun m1 st1 H1 i s1 => h.go m1 st1 H1 i (s.trans s1), fun m1 st1 H1 i d x H2 s1 => h.yld m1 st1 H1 i d x H2 (s.trans s1), fun m1 st1 H1 i s1 => h.stop m1 st1 H1 i (s.trans s1)⟩
def rIter (K : PySem.W.Frag) : RR (List D × Watch) It := fun _ m H a J => ItOk K m H J a.1 a.2
theorem mono_I {K : PySem.W.Frag} : RMono K (rIter K) := fun _ _ _ _ _ _ _ _ _ h => h
theorem _root_.L2.PI.mirImp {X : Cx} {tg e : Expr} {t t' : TI} (h : PI X tg e t) (i : ∀ σ H Q, t' σ H Q → t σ H Q) : PI X tg e t' := ⟨fun pins s σ H Q I q => h.run pins s σ H Q I (i σ H Q q)⟩
theorem _root_.L2.PI.mirOr {X : Cx} {tg e : Expr} {t t' : TI} (h : PI X tg e t) (h' : PI X tg e t') : PI X tg e (fun σ H Q => t σ H Q ∨ t' σ H Q) :=
  ⟨fun pins s σ H Q I q => q.elim (fun q => h.run pins s σ H Q I q) fun q => h'.run pins s σ H Q I q⟩
abbrev EvI (X : Cx) (W : WX) (tg e : Expr) (F : En → M (List D × Watch)) : Prop := PI X tg e (tG X.K X.mg (rIter X.K) W F)

open Classical in
noncomputable def forL (G : D → En → M En) (B : FS) (w : Watch) : List D → FS
  | [], en, st => if stays w st then .ok .nx en st else .bad
  | d :: ds, en, st => if stays w st then (match G d en st with
    | .ok en1 st1 => (match B en1 st1 with
      | .ok .nx en2 st2 => forL G B w ds en2 st2
      | .ok .ct en2 st2 => forL G B w ds en2 st2
      | .ok .bk en2 st2 => .ok .nx en2 st2
      | .ok (.rt v) en2 st2 => .ok (.rt v) en2 st2
      | .err x en2 st2 => .err x en2 st2
      | .bad => .bad)
    | _ => .bad) else .bad
noncomputable def sFor (I : En → M (List D × Watch)) (G : D → En → M En) (B : FS) : FS := fun en => lift (I en) (fun a => forL G B a.2 a.1) en
section
variable {X : Cx} {W : WX} {pos : Pos}
theorem es_for {tg iter : Expr} {body : List Stmt} {I : En → M (List D × Watch)} {G : D → En → M En} {B : FS} (hp : PassesOwn (model X.prog X.w) X.A X.env X.xe) (hi : EvI X W tg iter I) (hg : EvG X tg G) (hb : EvB X W body B)
    (hc : X.calm = true := by rfl) (hs : ∀ x, foldedSetIterable iter X.env x = pure x := by intro _; rfl) : EvS X W (.For tg iter body [] pos) (sFor I G B) := by
  refine (ps_for hp hc hi hg hb hs).mirImp fun D σ H ⟨m, en, st, S, N, q⟩ => ?_
  refine lift_wp S N q fun m0 st0 a J H0 s0 S0 r0 N0 q0 => ?_
  obtain ⟨xs, w⟩ := a
  have q0 : (forL G B w xs en st0).Wp (PostS X.K m0 H0 D) (PostSX X.K X.mg m0 H0 W) := q0
  have r0 : ItOk X.K m0 H0 J xs w := r0
  refine ⟨fun i n σ' H' => n = xs.length - i ∧ i ≤ xs.length ∧ ∃ m' en' st', Step X.K m0 H0 m' H' ∧ Sim X.K m' st' H' ∧ RelN X.K m' H' en' σ' ∧ (forL G B w (xs.drop i) en' st').Wp (PostS X.K m0 H0 D) (PostSX X.K X.mg m0 H0 W),
    ⟨xs.length, by simp, Nat.zero_le _, m0, en, st0, .refl, S0, N0, by simpa using q0⟩, ?_⟩
  rintro i n σ' H' ⟨rfl, hi, m', en', st', s', S', N', q'⟩
  by_cases hlt : i < xs.length
  · have hd : xs.drop i = xs[i] :: xs.drop (i + 1) := List.drop_eq_getElem_cons hlt
    rw [hd] at q'
    unfold forL at q'
    by_cases hst : stays w st'
    · rw [if_pos hst] at q'
      refine .inr ⟨r0.go m' st' H' i s' S' hst hlt, fun σ2 H2 => ∃ m2 en2 st2, Step X.K m0 H0 m2 H2 ∧ Sim X.K m2 st2 H2 ∧ RelN X.K m2 H2 en2 σ2 ∧ (forL G B w (xs.drop (i + 1)) en2 st2).Wp (PostS X.K m0 H0 D) (PostSX X.K X.mg m0 H0 W),
        fun σ2 H2 h2 => ⟨xs.length - (i + 1), by omega, rfl, hlt, h2⟩, fun x H2 y => ?_⟩
      obtain ⟨s2, S2, r2⟩ := r0.yld m' st' H' i xs[i] x H2 s' S' hst (by simp [hlt]) y
      refine ⟨m', en', st', xs[i], S2, N'.sub s2.sub, r2, ?_⟩
      cases e1 : G xs[i] en' st' with
      | err z st1 => rw [e1] at q'; exact (q' : False).elim
      | bad => rw [e1] at q'; exact (q' : False).elim
      | ok en1 st1 =>
        rw [e1] at q'
        intro σ3 m3 H3 s3 S3 N3
        have sAll : Step X.K m0 H0 m3 H3 := (s'.trans s2).trans s3
        refine ⟨m3, en1, st1, S3, N3, ?_⟩
        cases e2 : B en1 st1 with
        | bad => simp only [e2] at q'; exact q'
        | err z en2 st2 => simp only [e2] at q'; exact PostSX.step sAll q'
        | ok f en2 st2 =>
          cases f with
          | nx => simp only [e2] at q'; exact fun σ4 m4 H4 s4 S4 N4 => ⟨m4, en2, st2, sAll.trans s4, S4, N4, q'⟩
          | ct => simp only [e2] at q'; exact fun σ4 m4 H4 s4 S4 N4 => ⟨m4, en2, st2, sAll.trans s4, S4, N4, q'⟩
          | bk => simp only [e2] at q'; exact fun σ4 m4 H4 s4 S4 N4 => (okS q') σ4 m4 H4 (sAll.trans s4) S4 N4
          | rt d => simp only [e2] at q'; exact PostS.step sAll (okS q')
    · rw [if_neg hst] at q'
      exact (q' : False).elim
  · have e : i = xs.length := by omega
    subst e
    rw [List.drop_length] at q'
    unfold forL at q'
    by_cases hst : stays w st'
    · rw [if_pos hst] at q'
      exact .inl ⟨r0.stop m' st' H' _ s' S' hst (Nat.le_refl _), (okS q') σ' m' H' s' S' N'⟩
    · rw [if_neg hst] at q'
      exact (q' : False).elim

/-! ### while -/
end
def whileN (T : En → M Bool) (B : FS) : Nat → FS
  | 0 => fun _ _ => .bad
  | n + 1 => fun en st => match T en st with
    | .err x st1 => .err x en st1
    | .bad => .bad
    | .ok false st1 => .ok .nx en st1
    | .ok true st1 => (match B en st1 with
      | .ok .nx en2 st2 => whileN T B n en2 st2
      | .ok .ct en2 st2 => whileN T B n en2 st2
      | .ok .bk en2 st2 => .ok .nx en2 st2
      | .ok (.rt v) en2 st2 => .ok (.rt v) en2 st2
      | .err x en2 st2 => .err x en2 st2
      | .bad => .bad)
open Classical in
noncomputable def sWhile (T : En → M Bool) (B : FS) : FS := fun en st => if h : ∃ n, whileN T B n en st ≠ .bad then whileN T B (choose h) en st else .bad
theorem whileN_succ {T : En → M Bool} {B : FS} : ∀ {n : Nat} {en : En} {st : Sto}, whileN T B n en st ≠ .bad → whileN T B (n + 1) en st = whileN T B n en st
  | 0, en, st, h => absurd rfl h
  | n + 1, en, st, h => by
    unfold whileN at h
    conv => lhs; unfold whileN
    conv => rhs; unfold whileN
    cases e : T en st with
    | err x st1 => rfl
    | bad => rfl
    | ok b st1 =>
      simp only [e] at h ⊢
      cases b with
      | false => rfl
      | true =>
        cases e2 : B en st1 with
        | err x en2 st2 => simp only [e2]
        | bad => simp only [e2]
        | ok f en2 st2 =>
          cases f with
          | bk => simp only [e2]
          | rt v => simp only [e2]
          | nx => simp only [e2] at h ⊢; exact whileN_succ h
          | ct => simp only [e2] at h ⊢; exact whileN_succ h
theorem whileN_le {T : En → M Bool} {B : FS} {n k : Nat} {en : En} {st : Sto} (h : whileN T B n en st ≠ .bad) (hk : n ≤ k) : whileN T B k en st = whileN T B n en st := by
  induction hk with
  | refl => rfl
  | step _ ih => rw [whileN_succ (by rw [ih]; exact h), ih]
theorem sWhile_eq {T : En → M Bool} {B : FS} {n : Nat} {en : En} {st : Sto} (h : whileN T B n en st ≠ .bad) : sWhile T B en st = whileN T B n en st := by
  unfold sWhile
  have hx : ∃ n, whileN T B n en st ≠ .bad := ⟨n, h⟩
  rw [dif_pos hx]
  have h2 := Classical.choose_spec hx
  rcases Nat.le_total n (Classical.choose hx) with l | l
  · exact whileN_le h l
  · exact (whileN_le h2 l).symm
theorem sWhile_bad {T : En → M Bool} {B : FS} {en : En} {st : Sto} (h : ∀ n, whileN T B n en st = .bad) : sWhile T B en st = .bad := by
  unfold sWhile
  rw [dif_neg (fun ⟨n, q⟩ => q (h n))]
section
variable {X : Cx} {W : WX} {pos : Pos}
theorem es_while {c : Expr} {body : List Stmt} {T : En → M Bool} {B : FS} (hp : PassesOwn (model X.prog X.w) X.A X.env X.xe) (hc : EvT X W c T) (hb : EvB X W body B) : EvS X W (.While c body [] pos) (sWhile T B) := by
  refine (ps_while hp hc hb).mirImp fun D σ H ⟨m, en, st, S, N, q⟩ => ?_
  have hx : ∃ n, whileN T B n en st ≠ .bad := by
    apply Classical.byContradiction
    intro hn
    rw [sWhile_bad (fun n => Classical.byContradiction fun z => hn ⟨n, z⟩)] at q
    exact q
  obtain ⟨n0, h0⟩ := hx
  rw [sWhile_eq h0] at q
  refine ⟨fun n σ' H' => ∃ m' en' st', Step X.K m H m' H' ∧ Sim X.K m' st' H' ∧ RelN X.K m' H' en' σ' ∧ (whileN T B n en' st').Wp (PostS X.K m H D) (PostSX X.K X.mg m H W), ⟨n0, m, en, st, .refl, S, N, q⟩, ?_⟩
  rintro n σ' H' ⟨m', en', st', s', S', N', q'⟩
  cases n with
  | zero => exact (q' : False).elim
  | succ n =>
    unfold whileN at q'
    refine ⟨m', en', st', S', N', ?_⟩
    cases e : T en' st' with
    | bad => simp only [e] at q'; exact q'
    | err x st1 => simp only [e] at q'; exact fun cls dd m1 H1 s1 S1 r => (q' : PostSX _ _ _ _ _ _ _ _) cls dd σ' m1 H1 (s'.trans s1) S1 (N'.sub s1.sub) r
    | ok b st1 =>
      simp only [e] at q'
      intro b' m1 H1 s1 S1 eb
      cases (eb : b = b')
      cases b with
      | false => exact (okS q') σ' m1 H1 (s'.trans s1) S1 (N'.sub s1.sub)
      | true =>
        refine ⟨fun σ2 H2 => ∃ m2 en2 st2, Step X.K m H m2 H2 ∧ Sim X.K m2 st2 H2 ∧ RelN X.K m2 H2 en2 σ2 ∧ (whileN T B n en2 st2).Wp (PostS X.K m H D) (PostSX X.K X.mg m H W), fun σ2 H2 h2 => ⟨n, Nat.lt_succ_self _, h2⟩, ?_⟩
        have sAll := s'.trans s1
        refine ⟨m1, en', st1, S1, N'.sub s1.sub, ?_⟩
        cases e2 : B en' st1 with
        | bad => simp only [e2] at q'; exact q'
        | err z en2 st2 => simp only [e2] at q'; exact PostSX.step sAll q'
        | ok f en2 st2 =>
          cases f with
          | nx => simp only [e2] at q'; exact fun σ4 m4 H4 s4 S4 N4 => ⟨m4, en2, st2, sAll.trans s4, S4, N4, q'⟩
          | ct => simp only [e2] at q'; exact fun σ4 m4 H4 s4 S4 N4 => ⟨m4, en2, st2, sAll.trans s4, S4, N4, q'⟩
          | bk => simp only [e2] at q'; exact fun σ4 m4 H4 s4 S4 N4 => (okS q') σ4 m4 H4 (sAll.trans s4) S4 N4
          | rt d => simp only [e2] at q'; exact PostS.step sAll (okS q')
end

/-! ### defs -/
/-- the mirror of a def of n names by its body's -/
def fnM (n : Nat) (B : FS) : List D → M D := fun ds st => match B (ds.map some ++ List.replicate (n - ds.length) none) st with
  | .ok .nx _ st' => .ok .non st'
  | .ok (.rt d) _ st' => .ok d st'
  | .err x _ st' => .err x st'
  | _ => .bad
/-- the promise of a mirror, of a arguments -/
def spM (K : PySem.W.Frag) (mg : Str → Option Value) (a : Nat) (f : List D → M D) : Sp := fun vs H Q E =>
  ∃ m ds st, Sim K m st H ∧ RelL K m H ds vs ∧ ds.length = a ∧ (f ds st).Wp (PostR K (rD K) m H Q) (PostX K mg m H E)
theorem relN_start {K : PySem.W.Frag} {m : List Addr} {H : Hp} : ∀ {ds : List D} {vs : List V} (k : Nat), RelL K m H ds vs → RelN K m H (ds.map some ++ List.replicate k none) (vs.map some ++ List.replicate k none)
  | [], _, k, h => by
    cases h
    have : ∀ k : Nat, RelN K m H (List.replicate k none) (List.replicate k none) := fun k => by
      induction k with
      | zero => rfl
      | succ k ih => exact ⟨none, _, rfl, trivial, ih⟩
    exact this k
  | d :: ds, _, k, h => by
    obtain ⟨v, r, rfl, h1, h2⟩ := h
    exact ⟨some v, _, rfl, h1, relN_start k h2⟩
section
variable {P : Program} {w : World} {K : PySem.W.Frag} {mg : Str → Option Value} {base : Heap} {x qual : Str} {params : Arguments} {body : List Stmt} {scope : Scope} {dvs : List V} {kws : List (Str × V)} {f : Addr} {fd : FuncData}
abbrev Fn (P : Program) (w : World) (K : PySem.W.Frag) (mg : Str → Option Value) (base : Heap) (k : Nat) (f : Addr) (fd : FuncData) (ps : List Str) (g : List D → M D) : Prop := FnOk P w K mg base (L2.CX P w) k f fd ps (spM K mg ps.length g)
theorem fn_mir {N ps : List Str} {k : Nat} {B : FS} (F : FunD K x qual params body scope dvs kws f fd) (S : FnScope N ps scope)
    (hb : ∀ (cdv : Value) (A : Around) (outer : List Env) (s : Shared) (H : Hp) (E : XK), Room k (A.deeper (envOfC qual scope s.heap.objs.size f cdv)) →
      Takes (cxOf (L2.CX P w) P w K mg base N qual scope f cdv A outer s H E) (fun cls d _ H => E cls d H) →
      PassesOwn (model P w) (cxOf (L2.CX P w) P w K mg base N qual scope f cdv A outer s H E).A (cxOf (L2.CX P w) P w K mg base N qual scope f cdv A outer s H E).env (cxOf (L2.CX P w) P w K mg base N qual scope f cdv A outer s H E).xe →
      EvB (cxOf (L2.CX P w) P w K mg base N qual scope f cdv A outer s H E) (fun cls d _ H => E cls d H) body B) :
    Fn P w K mg base (k + 1) f fd ps (fnM N.length B) := by
  refine F.ok S (fun vs H Q E ⟨m, ds, st, _, r, l, _⟩ => (RelL.length r).symm.trans l) fun cdv A outer s H vs Q E hr h => ?_
  refine ⟨_, hb cdv A outer s H E hr (takes_of rfl rfl rfl rfl) (passes_of rfl), ?_⟩
  obtain ⟨m, ds, st, S', r, l, q⟩ := h
  have hl := RelL.length r
  refine ⟨m, _, st, S', relN_start (N.length - vs.length) r, ?_⟩
  unfold fnM at q
  rw [hl] at q
  show (B (ds.map some ++ List.replicate (N.length - vs.length) none) st).Wp (PostS K m H _) (PostSX K mg m H _)
  cases e : B (ds.map some ++ List.replicate (N.length - vs.length) none) st with
  | bad => rw [e] at q; exact q
  | err y en' st' => rw [e] at q; exact fun cls dd σ' m' H' s' S2 N2 rx => (q : PostX K mg m H E y st') cls dd m' H' s' S2 rx
  | ok fl en' st' =>
    rw [e] at q
    cases fl with
    | nx => exact fun σ' m' H' s' S2 N2 => (q : PostR K (rD K) m H Q .non st') .non m' H' s' S2 rfl
    | rt d => exact q
    | bk => exact (q : False).elim
    | ct => exact (q : False).elim
end
end Mir
end part_Mir2
section part_Mir3
set_option maxHeartbeats 1000000
/-! Mir3: operations on values. -/
namespace Mir
open PySem PySem.Spec PyProof.Rows L2

section
variable {K : PySem.W.Frag} {mg : Str → Option Value} {m m' m1 : List Addr} {H H' H1 : Hp} {st st' : Sto} {Q : VK}
theorem post_val {d : D} {v : V} (h : PostR K (rD K) m H Q d st) (S : Sim K m st H) (r : Rel K m H d v) : Q v H := h v m H .refl S r
theorem post_tup {ds : List D} {vs : List V} {p : Addr} (h : PostR K (rD K) m H Q (.tup ds) st) (S : Sim K m st H) (r : RelL K m H ds vs) (hp : H p = none) : Q (.ref p) (upd H p (.tup vs)) :=
  h _ m _ (Step.new hp) (S.new hp) ⟨p, vs, rfl, SqT.of upd_same, RelL.sub (Step.new hp).sub r⟩
theorem post_new {ds : List D} {vs : List V} {p : Addr} (h : PostR K (rD K) m H Q (.ref st.length) (st ++ [.lst ds])) (S : Sim K m st H) (r : RelL K m H ds vs) (hp : H p = none) : Q (.ref p) (upd H p (.lst vs)) := by
  refine h _ (m ++ [p]) _ ((Step.new hp).take hp) ((S.new hp).take (S.fresh hp) ⟨vs, upd_same, RelL.sub (Step.new hp).sub r⟩) ⟨p, ?_, rfl⟩
  rw [← S.len, List.getElem?_append_right (Nat.le_refl _)]
  simp
theorem post_tmp {ds : List D} {vs : List V} {p : Addr} (h : PostR K (rT K) m H Q ds st) (S : Sim K m st H) (r : RelL K m H ds vs) (hp : H p = none) : Q (.ref p) (upd H p (.lst vs)) :=
  h _ m _ (Step.new hp) (S.new hp) ⟨p, vs, rfl, hp, S.fresh hp, upd_same, RelL.sub (Step.new hp).sub r⟩
theorem Sim.lstAt (S : Sim K m st H) {i : Nat} {p : Addr} {xs : List D} (hi : m[i]? = some p) (h : st[i]? = some (.lst xs)) : ∃ vs, H p = some (.lst vs) ∧ RelL K m H xs vs := S.ob i p _ hi h
theorem Sim.seqAt (S : Sim K m st H) {i : Nat} {p : Addr} {xs : List D} (hi : m[i]? = some p) (h : listAt st i = some xs) : ∃ vs, SqL K H p vs ∧ RelL K m H xs vs ∧ TyOf K H (.ref p) (.type "list") := by
  unfold listAt at h
  split at h
  · rename_i ys e
    cases h
    obtain ⟨vs, e2, r⟩ := S.ob i p _ hi e
    exact ⟨vs, SqL.of e2, r, .lst e2⟩
  · rename_i ys e
    cases h
    obtain ⟨o, vs, e2, r⟩ := S.ob i p _ hi e
    exact ⟨vs, .inl (.inr ⟨o, e2⟩), r, .frz e2⟩
  · cases h
theorem Sim.has (S : Sim K m st H) {i : Nat} {o : Ob} (h : st[i]? = some o) : ∃ p, m[i]? = some p := by
  have hi : i < m.length := by rw [S.len]; exact (List.getElem?_eq_some_iff.mp h).1
  exact ⟨m[i], by simp [hi]⟩
end

/-! ### sums, products, quotients -/
def gCat (i j : Nat) : M D := fun st => match st[i]?, st[j]? with
  | some (.lst a), some (.lst b) => (within (a.length + b.length) >>= fun _ => alloc (.lst (a ++ b))) st
  | _, _ => .bad
def gAdd : D → D → M D
  | .int i, .int j => pure (.int (i + j))
  | .tup a, .tup b => within (a.length + b.length) >>= fun _ => pure (.tup (a ++ b))
  | .str a, .str b => within (a.length + b.length) >>= fun _ => pure (.str (a ++ b))
  | .ref i, .ref j => gCat i j
  | _, _ => bad
def gSub : D → D → M D
  | .int i, .int j => pure (.int (i - j))
  | _, _ => bad
def mulOk (i j : Int) : Prop := ((-(2 ^ 64) < i ∧ i < 2 ^ 64) ∨ (-(2 ^ 64) < j ∧ j < 2 ^ 64)) ∨ i.natAbs.log2 + j.natAbs.log2 < 1000000
instance (i j : Int) : Decidable (mulOk i j) := by unfold mulOk; infer_instance
def gRep (i : Nat) (k : Int) : M D := fun st => match st[i]? with
  | some (.lst a) => if -(2 ^ 63) ≤ k ∧ k < 2 ^ 63 ∧ a.length * k.toNat ≤ sizeLine then alloc (.lst (List.replicate k.toNat a).flatten) st else .bad
  | _ => .bad
def gMul : D → D → M D
  | .int i, .int j => if mulOk i j then pure (.int (i * j)) else bad
  | .tup a, .int k => if a ≠ [] ∧ 2 ≤ k ∧ k ≤ 1000 ∧ a.length ≤ 1000 then pure (.tup (List.replicate k.toNat a).flatten) else bad
  | .ref i, .int k => gRep i k
  | _, _ => bad
def gFdiv : D → D → M D
  | .int i, .int j => if 0 < j ∧ j.natAbs.log2 < 9000 then pure (.int (i / j)) else bad
  | _, _ => bad
def gMod : D → D → M D
  | .int i, .int j => if 0 < j then pure (.int (i % j)) else bad
  | _, _ => bad
def gPow : D → D → M D
  | .int i, .int j => if 0 ≤ j ∧ j ≤ 1000000 ∧ i.natAbs < 2 ^ 64 then pure (.int (i ^ j.toNat)) else bad
  | _, _ => bad
def gNeg : D → M D
  | .int i => pure (.int (-i))
  | _ => bad
def gLt : D → D → M D
  | .int i, .int j => pure (.bl (decide (i < j)))
  | _, _ => bad
def gLe : D → D → M D
  | .int i, .int j => pure (.bl (decide (i ≤ j)))
  | _, _ => bad
def gGt : D → D → M D
  | .int i, .int j => pure (.bl (decide (j < i)))
  | _, _ => bad
def gGe : D → D → M D
  | .int i, .int j => pure (.bl (decide (j ≤ i)))
  | _, _ => bad

/-- reads off what the mirror did: closes what cannot be -/
theorem calm_pure {α : Type} {a : α} : Calm (pure a : M α) := fun st x st' h => nomatch h
theorem calm_bad {α : Type} : Calm (bad : M α) := fun st x st' h => nomatch h
theorem calm_bind {α β : Type} {x : M α} {f : α → M β} (h : Calm x) (g : ∀ a, Calm (f a)) : Calm (x >>= f) := fun st y st' e => by
  rw [bind_def] at e
  cases q : x st with
  | ok a st1 => rw [q] at e; exact g a st1 y st' e
  | err z st1 => exact h st z st1 q
  | bad => rw [q] at e; exact nomatch e
theorem calm_within {n : Nat} : Calm (within n) := by unfold within; split; exact calm_pure; exact calm_bad
theorem calm_alloc {o : Ob} : Calm (alloc o) := fun st x st' h => nomatch h
theorem calm_ite {α : Type} {c : Prop} [Decidable c] {x y : M α} (h : Calm x) (g : Calm y) : Calm (if c then x else y) := by split; exact h; exact g
section
variable {K : PySem.W.Frag} {X : Cx}
theorem opm_int {g : D → D → M D} {C : Int → Int → Prop} {f : Int → Int → V} {F : Int → Int → D} [∀ i j, Decidable (C i j)] (hF : ∀ i j m H, Rel K m H (F i j) (f i j)) (hg : ∀ dx dy, (∃ i j, dx = .int i ∧ dy = .int j ∧ g dx dy = if C i j then pure (F i j) else bad) ∨ g dx dy = bad) :
    OpM K (rI C f) g := fun m st H dx dy x y Q S rx ry h => by
  rcases hg dx dy with ⟨i, j, rfl, rfl, e⟩ | e
  · rw [e] at h
    split at h
    · rename_i c
      cases rx
      cases ry
      exact ⟨i, j, rfl, rfl, c, post_val h S (hF i j m H)⟩
    · exact (h : False).elim
  · rw [e] at h; exact (h : False).elim
theorem opm_int0 {g : D → D → M D} {f : Int → Int → V} {F : Int → Int → D} (hF : ∀ i j m H, Rel K m H (F i j) (f i j)) (hg : ∀ dx dy, (∃ i j, dx = .int i ∧ dy = .int j ∧ g dx dy = pure (F i j)) ∨ g dx dy = bad) :
    OpM K (rI0 f) g := fun m st H dx dy x y Q S rx ry h => by
  rcases hg dx dy with ⟨i, j, rfl, rfl, e⟩ | e
  · rw [e] at h
    cases rx
    cases ry
    exact ⟨i, j, rfl, rfl, post_val h S (hF i j m H)⟩
  · rw [e] at h; exact (h : False).elim
theorem opm_sub : OpM K (rI0 fun i j => .int (i - j)) gSub := opm_int0 (F := fun i j => .int (i - j)) (fun _ _ _ _ => rfl) fun dx dy => by
  cases dx <;> cases dy <;> first | exact .inl ⟨_, _, rfl, rfl, rfl⟩ | exact .inr rfl
theorem opm_fdiv : OpM K (rI CDivW fun i j => .int (i / j)) gFdiv := by
  have h : ∀ i j : Int, Decidable (CDivW i j) := fun i j => inferInstanceAs (Decidable (0 < j ∧ j.natAbs.log2 < 9000))
  exact opm_int (F := fun i j => .int (i / j)) (fun _ _ _ _ => rfl) fun dx dy => by
    cases dx <;> cases dy <;> first | (refine .inl ⟨_, _, rfl, rfl, ?_⟩; show (if _ then _ else _) = (if _ then _ else _); congr) | exact .inr rfl
theorem opm_mod : OpM K (rI (fun _ j => 0 < j) fun i j => .int (i % j)) gMod := opm_int (F := fun i j => .int (i % j)) (fun _ _ _ _ => rfl) fun dx dy => by
  cases dx <;> cases dy <;> first | exact .inl ⟨_, _, rfl, rfl, rfl⟩ | exact .inr rfl
theorem opm_pow : OpM K (rI CPow fun i j => .int (i ^ j.toNat)) gPow := by
  have h : ∀ i j : Int, Decidable (CPow i j) := fun i j => inferInstanceAs (Decidable (0 ≤ j ∧ j ≤ 1000000 ∧ i.natAbs < 2 ^ 64))
  exact opm_int (F := fun i j => .int (i ^ j.toNat)) (fun _ _ _ _ => rfl) fun dx dy => by
    cases dx <;> cases dy <;> first | (refine .inl ⟨_, _, rfl, rfl, ?_⟩; show (if _ then _ else _) = (if _ then _ else _); congr) | exact .inr rfl
theorem opm_lt : OpM K (rI0 fun i j => .bl (decide (i < j))) gLt := opm_int0 (F := fun i j => .bl (decide (i < j))) (fun _ _ _ _ => rfl) fun dx dy => by
  cases dx <;> cases dy <;> first | exact .inl ⟨_, _, rfl, rfl, rfl⟩ | exact .inr rfl
theorem opm_le : OpM K (rI0 fun i j => .bl (decide (i ≤ j))) gLe := opm_int0 (F := fun i j => .bl (decide (i ≤ j))) (fun _ _ _ _ => rfl) fun dx dy => by
  cases dx <;> cases dy <;> first | exact .inl ⟨_, _, rfl, rfl, rfl⟩ | exact .inr rfl
theorem opm_gt : OpM K (rI0 fun i j => .bl (decide (j < i))) gGt := opm_int0 (F := fun i j => .bl (decide (j < i))) (fun _ _ _ _ => rfl) fun dx dy => by
  cases dx <;> cases dy <;> first | exact .inl ⟨_, _, rfl, rfl, rfl⟩ | exact .inr rfl
theorem opm_ge : OpM K (rI0 fun i j => .bl (decide (j ≤ i))) gGe := opm_int0 (F := fun i j => .bl (decide (j ≤ i))) (fun _ _ _ _ => rfl) fun dx dy => by
  cases dx <;> cases dy <;> first | exact .inl ⟨_, _, rfl, rfl, rfl⟩ | exact .inr rfl
theorem unm_neg : UnM K (rU fun i => .int (-i)) gNeg := fun m st H dx x Q S rx h => by
  cases dx <;> first | (cases rx; exact ⟨_, rfl, post_val h S rfl⟩) | exact (h : False).elim
def rAddA (K : PySem.W.Frag) : R2 := fun x y H Q => rI0 (fun i j => .int (i + j)) x y H Q ∨ rCatA K x y H Q ∨ (∃ i j, x = .str i ∧ y = .str j ∧ i.length + j.length ≤ sizeLine ∧ Q (.str (i ++ j)) H) ∨ rCat x y H Q
theorem op_addA : OpR X (binaryOp .Add) (rAddA X.K) := op_add.or (op_catA.or (op_add_str.or op_cat))
theorem opm_add : OpM K (rAddA K) gAdd := fun m st H dx dy x y Q S rx ry h => by
  unfold gAdd at h
  split at h
  · cases rx; cases ry
    exact .inl ⟨_, _, rfl, rfl, post_val h S rfl⟩
  · obtain ⟨hz, q⟩ := wp_within.mp (wp_bind.mp h)
    rename_i a b
    obtain ⟨p, vs, rfl, t, r⟩ := rx
    obtain ⟨p2, ws, rfl, t2, r2⟩ := ry
    have l1 := RelL.length r
    have l2 := RelL.length r2
    have q : PostR K (rD K) m H Q (.tup (a ++ b)) st := q
    refine .inr (.inl ⟨p, p2, vs, ws, rfl, rfl, t, t2, by omega, fun e => ?_, fun _ e => ?_, fun _ _ p3 hp => ?_⟩)
    · subst e
      have : a = [] := List.length_eq_zero_iff.mp (by simpa using l1)
      subst this
      exact post_val q S ⟨p2, ws, rfl, t2, r2⟩
    · subst e
      have : b = [] := List.length_eq_zero_iff.mp (by simpa using l2)
      subst this
      rw [List.append_nil] at q
      exact post_val q S ⟨p, vs, rfl, t, r⟩
    · exact post_tup q S (r.append r2) hp
  · obtain ⟨hz, q⟩ := wp_within.mp (wp_bind.mp h)
    cases rx; cases ry
    exact .inr (.inr (.inl ⟨_, _, rfl, rfl, hz, post_val q S rfl⟩))
  · rename_i i j
    unfold gCat at h
    split at h
    · rename_i a b e1 e2
      obtain ⟨hz, q⟩ := wp_within.mp (wp_bind.mp h)
      obtain ⟨p, hp, rfl⟩ := rx
      obtain ⟨p2, hp2, rfl⟩ := ry
      obtain ⟨vs, f1, r1⟩ := S.lstAt hp e1
      obtain ⟨ws, f2, r2⟩ := S.lstAt hp2 e2
      have l1 := RelL.length r1
      have l2 := RelL.length r2
      exact .inr (.inr (.inr ⟨p, p2, vs, ws, rfl, rfl, f1, f2, by omega, fun p3 h3 => post_new q S (r1.append r2) h3⟩))
    · exact (h : False).elim
  · exact (h : False).elim
theorem calm_add (x y : D) : Calm (gAdd x y) := by
  unfold gAdd
  split
  · exact calm_pure
  · exact calm_bind calm_within fun _ => calm_pure
  · exact calm_bind calm_within fun _ => calm_pure
  · intro st z st' e
    unfold gCat at e
    split at e
    · exact calm_bind calm_within (fun _ => calm_alloc) st z st' e
    · cases e
  · exact calm_bad
theorem calm_sub (x y : D) : Calm (gSub x y) := by unfold gSub; split <;> first | exact calm_pure | exact calm_bad
theorem calm_fdiv (x y : D) : Calm (gFdiv x y) := by unfold gFdiv; split <;> first | exact calm_ite calm_pure calm_bad | exact calm_bad
theorem calm_mod (x y : D) : Calm (gMod x y) := by unfold gMod; split <;> first | exact calm_ite calm_pure calm_bad | exact calm_bad
theorem calm_pow (x y : D) : Calm (gPow x y) := by unfold gPow; split <;> first | exact calm_ite calm_pure calm_bad | exact calm_bad
theorem calm_lt (x y : D) : Calm (gLt x y) := by unfold gLt; split <;> first | exact calm_pure | exact calm_bad
theorem calm_le (x y : D) : Calm (gLe x y) := by unfold gLe; split <;> first | exact calm_pure | exact calm_bad
theorem calm_gt (x y : D) : Calm (gGt x y) := by unfold gGt; split <;> first | exact calm_pure | exact calm_bad
theorem calm_ge (x y : D) : Calm (gGe x y) := by unfold gGe; split <;> first | exact calm_pure | exact calm_bad
theorem calm_neg (x : D) : Calm (gNeg x) := by unfold gNeg; split <;> first | exact calm_pure | exact calm_bad
def rMulA (K : PySem.W.Frag) : R2 := fun x y H Q => rI CMul (fun i j => .int (i * j)) x y H Q ∨ rI CMulW (fun i j => .int (i * j)) x y H Q ∨ rRepT K x y H Q ∨ rRep x y H Q
theorem op_mulA : OpR X (binaryOp .Mult) (rMulA X.K) := op_mul.or (op_mulW.or (op_repT.or op_rep))
theorem opm_mul : OpM K (rMulA K) gMul := fun m st H dx dy x y Q S rx ry h => by
  unfold gMul at h
  split at h
  · split at h
    · rename_i c
      cases rx; cases ry
      rcases c with c | c
      · exact .inl ⟨_, _, rfl, rfl, c, post_val h S rfl⟩
      · exact .inr (.inl ⟨_, _, rfl, rfl, c, post_val h S rfl⟩)
    · exact (h : False).elim
  · split at h
    · rename_i a k c
      obtain ⟨p, vs, rfl, t, r⟩ := rx
      cases ry
      have l := RelL.length r
      refine .inr (.inr (.inl ⟨p, k, vs, rfl, rfl, t, fun e => c.1 (List.length_eq_zero_iff.mp (by rw [l, e]; rfl)), c.2.1, c.2.2.1, by have := c.2.2.2; omega, fun p2 h2 => post_tup h S (r.rep _) h2⟩))
    · exact (h : False).elim
  · unfold gRep at h
    split at h
    · split at h
      · rename_i i k _ a e c
        obtain ⟨p, hp, rfl⟩ := rx
        cases ry
        obtain ⟨vs, f1, r1⟩ := S.lstAt hp e
        have l := RelL.length r1
        exact .inr (.inr (.inr ⟨p, k, vs, rfl, rfl, f1, c.1, c.2.1, by rw [← l]; exact c.2.2, fun p3 h3 => post_new h S (r1.rep _) h3⟩))
      · exact (h : False).elim
    · exact (h : False).elim
  · exact (h : False).elim
theorem calm_mul (x y : D) : Calm (gMul x y) := by
  unfold gMul
  split
  · exact calm_ite calm_pure calm_bad
  · exact calm_ite calm_pure calm_bad
  · intro st z st' e
    unfold gRep at e
    split at e
    · split at e
      · exact calm_alloc st z st' e
      · cases e
    · cases e
  · exact calm_bad
end

/-! ### == -/
/-- a value as plain data, its lists read off the store -/
def py (st : Sto) : Nat → D → Option PyData
  | _, .non => some .none
  | _, .bl b => some (.bool b)
  | _, .int i => some (.int i)
  | _, .str x => some (.str x)
  | 0, .tup _ => none
  | 0, .ref _ => none
  | n + 1, .tup xs => (xs.mapM (py st n)).map .tuple
  | n + 1, .ref i => match listAt st i with
    | some xs => (xs.mapM (py st n)).map .list
    | none => none
section
variable {K : PySem.W.Frag} {m : List Addr} {H : Hp} {st : Sto}
theorem py_all {n : Nat} (ih : ∀ (d : D) (v : V) (e : PyData), Rel K m H d v → py st n d = some e → Dp K H v e) : ∀ (xs : List D) (vs : List V) (es : List PyData), RelL K m H xs vs → xs.mapM (py st n) = some es → DpAll K H vs es
  | [], _, _, r, h => by
    cases (r : _ = _)
    simp at h
    subst h
    exact .nil
  | x :: xs, _, _, r, h => by
    obtain ⟨v, r', rfl, r1, r2⟩ := r
    simp only [List.mapM_cons] at h
    cases e1 : py st n x with
    | none => rw [e1] at h; exact nomatch h
    | some y =>
      cases e2 : xs.mapM (py st n) with
      | none => rw [e1, e2] at h; exact nomatch h
      | some ys =>
        rw [e1, e2] at h
        cases h
        exact .cons (ih _ _ _ r1 e1) (py_all ih xs _ _ r2 e2)
theorem py_ok (S : Sim K m st H) : ∀ (n : Nat) (d : D) (v : V) (e : PyData), Rel K m H d v → py st n d = some e → Dp K H v e
  | n, .non, _, _, r, h => by cases (r : _ = _); cases n <;> (cases h; exact .non)
  | n, .bl b, _, _, r, h => by cases (r : _ = _); cases n <;> (cases h; exact .bl b)
  | n, .int i, _, _, r, h => by cases (r : _ = _); cases n <;> (cases h; exact .int i)
  | n, .str x, _, _, r, h => by cases (r : _ = _); cases n <;> (cases h; exact .str x)
  | 0, .tup _, _, _, _, h => nomatch h
  | 0, .ref _, _, _, _, h => nomatch h
  | n + 1, .tup xs, _, _, r, h => by
    obtain ⟨p, vs, rfl, t, r⟩ := r
    unfold py at h
    cases e : xs.mapM (py st n) with
    | none => rw [e] at h; exact nomatch h
    | some es =>
      rw [e] at h
      cases h
      exact .tup t (py_all (py_ok S n) xs vs es r e)
  | n + 1, .ref i, _, _, r, h => by
    obtain ⟨p, hp, rfl⟩ := r
    unfold py at h
    split at h
    · rename_i xs hx
      obtain ⟨vs, hs, r, _⟩ := S.seqAt hp hx
      cases e : xs.mapM (py st n) with
      | none => rw [e] at h; exact nomatch h
      | some es =>
        rw [e] at h
        cases h
        exact .lst hs (py_all (py_ok S n) xs vs es r e)
    · cases h
end
def pyDeep : Nat := 20
def gCmpD (f : Bool → Bool) : D → D → M D := fun a b st => match py st pyDeep a, py st pyDeep b with
  | some x, some y => if SeqAt.shaped x = true ∧ SeqAt.shaped y = true then .ok (.bl (f (PyData.eqv x y))) st else .bad
  | _, _ => .bad
def gEq : D → D → M D := gCmpD id
def gNe : D → D → M D := gCmpD not
section
variable {K : PySem.W.Frag}
theorem calm_cmpD (f : Bool → Bool) (x y : D) : Calm (gCmpD f x y) := fun st z st' e => by
  unfold gCmpD at e
  split at e
  · split at e <;> cases e
  · cases e
theorem opm_cmpD (f : Bool → Bool) : OpM K (fun x y H Q => ∃ d e, Dp K H x d ∧ Dp K H y e ∧ SeqAt.shaped d = true ∧ SeqAt.shaped e = true ∧ Q (.bl (f (PyData.eqv d e))) H) (gCmpD f) := fun m st H dx dy x y Q S rx ry h => by
  unfold gCmpD at h
  split at h
  · rename_i a b e1 e2
    split at h
    · rename_i c
      exact ⟨a, b, py_ok S _ _ _ _ rx e1, py_ok S _ _ _ _ ry e2, c.1, c.2, post_val h S rfl⟩
    · exact (h : False).elim
  · exact (h : False).elim
theorem opm_eq : OpM K (rEqD K) gEq := opm_cmpD id
theorem opm_ne : OpM K (rNeD K) gNe := opm_cmpD not
end

/-! ### is -/
def D.isNon : D → Bool
  | .non => true
  | _ => false
def D.isBl (b : Bool) : D → Bool
  | .bl c => c == b
  | _ => false
def gIsN : D → D → M D
  | d, .non => pure (.bl d.isNon)
  | _, _ => bad
def gNotN : D → D → M D
  | d, .non => pure (.bl (!d.isNon))
  | _, _ => bad
/-- x is True, x is False -/
def gIsB : D → D → M D
  | d, .bl b => pure (.bl (d.isBl b))
  | _, _ => bad
section
variable {K : PySem.W.Frag} {X : Cx}
theorem calm_isN (x y : D) : Calm (gIsN x y) := by unfold gIsN; split <;> first | exact calm_pure | exact calm_bad
theorem calm_notN (x y : D) : Calm (gNotN x y) := by unfold gNotN; split <;> first | exact calm_pure | exact calm_bad
theorem calm_isB (x y : D) : Calm (gIsB x y) := by unfold gIsB; split <;> first | exact calm_pure | exact calm_bad
theorem Rel.non_iff {m : List Addr} {H : Hp} {d : D} {v : V} (r : Rel K m H d v) : (decide (v = .non)) = d.isNon := by
  cases d with
  | non => cases (r : _ = _); rfl
  | bl b => cases (r : _ = _); rfl
  | int b => cases (r : _ = _); rfl
  | str b => cases (r : _ = _); rfl
  | tup xs => obtain ⟨p, vs, rfl, _⟩ := r; rfl
  | ref i => obtain ⟨p, _, rfl⟩ := r; rfl
theorem opm_isN : OpM K (fun x y H Q => y = .non ∧ Q (.bl (decide (x = .non))) H) gIsN := fun m st H dx dy x y Q S rx ry h => by
  unfold gIsN at h
  split at h
  · cases (ry : _ = _)
    refine ⟨rfl, ?_⟩
    rw [rx.non_iff]
    exact post_val h S rfl
  · exact (h : False).elim
theorem opm_notN : OpM K (fun x y H Q => y = .non ∧ Q (.bl (!decide (x = .non))) H) gNotN := fun m st H dx dy x y Q S rx ry h => by
  unfold gNotN at h
  split at h
  · cases (ry : _ = _)
    refine ⟨rfl, ?_⟩
    rw [rx.non_iff]
    exact post_val h S rfl
  · exact (h : False).elim
def _root_.L2.V.mirIsBl (b : Bool) : V → Bool
  | .bl c => c == b
  | _ => false
def rIsBA : R2 := fun x y H Q => ∃ b, y = .bl b ∧ Q (.bl (x.mirIsBl b)) H
theorem op_isBA : OpR X (compareOp .Is) rIsBA := by
  intro pins s σ H x y v u Q I rx ry h
  obtain ⟨b, rfl, q⟩ := h
  cases (show u = Value.bool b from ry)
  cases x with
  | non => cases (show v = Value.none from rx); exact wpAny_is_other rfl (fun z => nomatch z) ⟨.bl false, H, I, rfl, q⟩
  | bl c =>
    cases (show v = Value.bool c from rx)
    refine wpAny_is_plain rfl ⟨.bl (c == b), H, I, ?_, q⟩
    show Value.bool _ = Value.bool _
    cases c <;> cases b <;> rfl
  | int i => obtain ⟨t, rfl⟩ := rx; exact wpAny_is_other rfl (fun z => nomatch z) ⟨.bl false, H, I, rfl, q⟩
  | str i => obtain ⟨t, rfl⟩ := rx; exact wpAny_is_other rfl (fun z => nomatch z) ⟨.bl false, H, I, rfl, q⟩
  | byt i => obtain ⟨t, rfl⟩ := rx; exact wpAny_is_other rfl (fun z => nomatch z) ⟨.bl false, H, I, rfl, q⟩
  | flt i => obtain ⟨t, rfl⟩ := rx; exact wpAny_is_other rfl (fun z => nomatch z) ⟨.bl false, H, I, rfl, q⟩
  | ref a => cases (show v = Value.ref a from rx); exact wpAny_is_other rfl (fun z => nomatch z) ⟨.bl false, H, I, rfl, q⟩
  | ty a => cases (show v = Value.type a from rx); exact wpAny_is_other rfl (fun z => nomatch z) ⟨.bl false, H, I, rfl, q⟩
theorem opm_isB : OpM K rIsBA gIsB := fun m st H dx dy x y Q S rx ry h => by
  unfold gIsB at h
  split at h
  · rename_i b
    cases (ry : _ = _)
    refine ⟨b, rfl, ?_⟩
    cases dx with
    | non => cases (rx : _ = _); exact post_val h S rfl
    | bl c => cases (rx : _ = _); exact post_val h S rfl
    | int c => cases (rx : _ = _); exact post_val h S rfl
    | str c => cases (rx : _ = _); exact post_val h S rfl
    | tup c => obtain ⟨p, vs, rfl, _⟩ := rx; exact post_val h S rfl
    | ref c => obtain ⟨p, _, rfl⟩ := rx; exact post_val h S rfl
  · exact (h : False).elim
end
end Mir
end part_Mir3
section part_Mir4
set_option maxHeartbeats 1000000
/-! Mir4: calls of built-ins, places, slices, what is walked, comprehensions. -/
namespace Mir
open PySem PySem.Spec PyProof.Rows L2

/-! ### built-ins upon values -/
def CallM (K : PySem.W.Frag) (r : List V → Hp → VK → Prop) (g : List D → M D) : Prop := ∀ m st H ds vs Q, Sim K m st H → RelL K m H ds vs → (g ds st).Wp (PostR K (rD K) m H Q) (fun _ _ => False) → r vs H Q
def fCallB (g : List D → M D) (F : En → M (List D)) : En → M D := fun en => F en >>= g
section
variable {X : Cx} {W : WX} {p pos : Pos} {x : Str} {e : Expr} {es : List Expr} {id T : String} {r : List V → Hp → VK → Prop} {g : List D → M D} {F : En → M (List D)}
theorem tCB_of (hg : CallM X.K r g) (hc : ∀ ds, Calm (g ds)) {σ : SS} {H : Hp} {Q : VK} (h : tG X.K X.mg (rD X.K) W (fCallB g F) σ H Q) : tCB r (tG X.K X.mg (rL X.K) W F) σ H Q := by
  obtain ⟨m, en, st, S, N, q⟩ := h
  exact seq_wp mono_D S N q fun m1 st1 ds vs H1 s1 S1 rl N1 q1 => hg m1 st1 H1 ds vs Q S1 rl (wp_calm (hc ds) q1)
theorem ev_callB (hr : CallR X (.builtin id) r) (hg : CallM X.K r g) (hc : ∀ ds, Calm (g ds)) (hm : X.mg x = none) (hv : bootBuiltins x = some (.builtin id)) (ha : EvA X W (e :: es) F)
    (hgl : Gl X x := by rfl) (hn : x ≠ "__name__" := by decide) (hdb : (x == ("__debug__" : Str)) = false := by decide) (he : starEach (e :: es) X.env = (false, eval e X.env) :: starEach es X.env := by rfl) (hpl : (backTo pos (starEach es X.env)).any (·.1) = false := by rfl) :
    EvE X W (.Call (.Name x p) (e :: es) [] pos) (fCallB g F) := (pe_callB hr hgl hm hv ha hn hdb he hpl).mirImp fun σ H Q h => tCB_of hg hc h
theorem ev_callTy (hr : CallR X (.type T) r) (hg : CallM X.K r g) (hc : ∀ ds, Calm (g ds)) (hm : X.mg x = none) (hv : bootBuiltins x = some (.type T)) (ha : EvA X W (e :: es) F)
    (hgl : Gl X x := by rfl) (hn : x ≠ "__name__" := by decide) (hdb : (x == ("__debug__" : Str)) = false := by decide) (he : starEach (e :: es) X.env = (false, eval e X.env) :: starEach es X.env := by rfl) (hpl : (backTo pos (starEach es X.env)).any (·.1) = false := by rfl) :
    EvE X W (.Call (.Name x p) (e :: es) [] pos) (fCallB g F) := (pe_callTy hr hgl hm hv ha hn hdb he hpl).mirImp fun σ H Q h => tCB_of hg hc h
end
/-- one argument, its answer and the call's told by any relations -/
def fThen {α β : Type} (g : α → M β) (F : En → M α) : En → M β := fun en => F en >>= g
def Call1 {α γ : Type} (K : PySem.W.Frag) (R : RR α V) (R2 : RR γ V) (r : List V → Hp → VK → Prop) (g : α → M γ) : Prop :=
  ∀ H0 m st H a v Q, Sim K m st H → R H0 m H a v → (g a st).Wp (PostR K R2 m H Q) (fun _ _ => False) → r [v] H Q
section
variable {α γ : Type} {X : Cx} {W : WX} {p pos : Pos} {x : Str} {e : Expr} {id T : String} {r : List V → Hp → VK → Prop} {R : RR α V} {R2 : RR γ V} {g : α → M γ} {F : En → M α}
theorem tCB1_of (hm2 : RMono X.K R2) (hg : Call1 X.K R R2 r g) (hc : ∀ a, Calm (g a)) {σ : SS} {H : Hp} {Q : VK} (h : tG X.K X.mg R2 W (fThen g F) σ H Q) : tCB r (tCons (tG X.K X.mg R W F) tNil) σ H Q := by
  obtain ⟨m, en, st, S, N, q⟩ := h
  exact seq_wp hm2 S N q fun m1 st1 a v H1 s1 S1 r1 N1 q1 => hg H m1 st1 H1 a v Q S1 r1 (wp_calm (hc a) q1)
theorem ev_call1B (hm2 : RMono X.K R2) (hr : CallR X (.builtin id) r) (hg : Call1 X.K R R2 r g) (hc : ∀ a, Calm (g a)) (hm : X.mg x = none) (hv : bootBuiltins x = some (.builtin id)) (h : PE X e (tG X.K X.mg R W F))
    (hgl : Gl X x := by rfl) (hn : x ≠ "__name__" := by decide) (hdb : (x == ("__debug__" : Str)) = false := by decide) (he : starEach [e] X.env = (false, eval e X.env) :: starEach [] X.env := by rfl) (hpl : (backTo pos (starEach [] X.env)).any (·.1) = false := by rfl) :
    PE X (.Call (.Name x p) [e] [] pos) (tG X.K X.mg R2 W (fThen g F)) := (pe_callB hr hgl hm hv (pa_cons h pa_nil he) hn hdb he hpl).mirImp fun σ H Q h => tCB1_of hm2 hg hc h
theorem ev_call1Ty (hm2 : RMono X.K R2) (hr : CallR X (.type T) r) (hg : Call1 X.K R R2 r g) (hc : ∀ a, Calm (g a)) (hm : X.mg x = none) (hv : bootBuiltins x = some (.type T)) (h : PE X e (tG X.K X.mg R W F))
    (hgl : Gl X x := by rfl) (hn : x ≠ "__name__" := by decide) (hdb : (x == ("__debug__" : Str)) = false := by decide) (he : starEach [e] X.env = (false, eval e X.env) :: starEach [] X.env := by rfl) (hpl : (backTo pos (starEach [] X.env)).any (·.1) = false := by rfl) :
    PE X (.Call (.Name x p) [e] [] pos) (tG X.K X.mg R2 W (fThen g F)) := (pe_callTy hr hgl hm hv (pa_cons h pa_nil he) hn hdb he hpl).mirImp fun σ H Q h => tCB1_of hm2 hg hc h
end

def rdL (i : Nat) : M (List D) := fun st => match listAt st i with
  | some xs => .ok xs st
  | none => .bad
theorem wp_rdL {i : Nat} {st : Sto} {Q : List D → Sto → Prop} {E : Exn → Sto → Prop} : (rdL i st).Wp Q E ↔ ∃ xs, listAt st i = some xs ∧ Q xs st := by
  unfold rdL
  cases e : listAt st i with
  | none => exact ⟨fun q => q.elim, fun ⟨_, h, _⟩ => nomatch h⟩
  | some xs => exact ⟨fun q => ⟨xs, rfl, q⟩, fun ⟨_, h, q⟩ => by cases h; exact q⟩
theorem calm_rdL {i : Nat} : Calm (rdL i) := fun st x st' h => by
  unfold rdL at h
  split at h <;> cases h
/-! len -/
def lenAt (i : Nat) : M D := fun st => match st[i]? with
  | some (.lst xs) => .ok (.int xs.length) st
  | some (.ro xs) => .ok (.int xs.length) st
  | some (.dct kvs) => .ok (.int kvs.length) st
  | _ => .bad
def gLen : D → M D
  | .str x => if x.length ≤ sizeLine then pure (.int x.length) else bad
  | .tup xs => pure (.int xs.length)
  | .ref i => lenAt i
  | _ => bad
theorem RelKV.length {K : PySem.W.Frag} {m : List Addr} {H : Hp} {κ : Type} : ∀ {ds : List (κ × D)} {vs : List (κ × V)}, RelKV K m H ds vs → ds.length = vs.length
  | [], _, h => by cases h; rfl
  | d :: ds, _, h => by
    obtain ⟨u, r, rfl, h1, h2⟩ := h
    simp [RelKV.length h2]
def rLenA (K : PySem.W.Frag) : List V → Hp → VK → Prop := fun xs H Q => (∃ x n, xs = [x] ∧ LenV K x H n ∧ Q (.int n) H) ∨ (∃ a kvs, xs = [V.ref a] ∧ H a = some (.dK kvs) ∧ Q (.int kvs.length) H)
section
variable {X : Cx} {K : PySem.W.Frag} {W : WX} {p pos : Pos} {e : Expr}
theorem cr_lenA : CallR X (.builtin "len") (rLenA X.K) := call_len.or call_lenD
theorem calm_len (d : D) : Calm (gLen d) := by
  unfold gLen
  split
  · exact calm_ite calm_pure calm_bad
  · exact calm_pure
  · intro st x st' h
    unfold lenAt at h
    split at h <;> cases h
  · exact calm_bad
theorem call1_len : Call1 K (rD K) (rD K) (rLenA K) gLen := fun H0 m st H d v Q S r h => by
  unfold gLen at h
  split at h
  · split at h
    · cases (r : _ = _)
      exact .inl ⟨_, _, rfl, ⟨‹_›, rfl⟩, post_val h S rfl⟩
    · exact (h : False).elim
  · obtain ⟨p, vs, rfl, t, rl⟩ := r
    rename_i xs
    have h : PostR K (rD K) m H Q (.int xs.length) st := h
    rw [RelL.length rl] at h
    exact .inl ⟨_, _, rfl, .inr ⟨vs, t, rfl⟩, post_val h S rfl⟩
  · obtain ⟨p, hp, rfl⟩ := r
    unfold lenAt at h
    split at h
    · rename_i i _ xs e
      obtain ⟨vs, hs, rl⟩ := S.ob _ _ _ hp e
      have h : PostR K (rD K) m H Q (.int xs.length) st := h
      rw [RelL.length rl] at h
      exact .inl ⟨_, _, rfl, .inl ⟨vs, SqL.of hs, rfl⟩, post_val h S rfl⟩
    · rename_i i _ xs e
      obtain ⟨o, vs, hs, rl⟩ := S.ob _ _ _ hp e
      have h : PostR K (rD K) m H Q (.int xs.length) st := h
      rw [RelL.length rl] at h
      exact .inl ⟨_, _, rfl, .inl ⟨vs, .inl (.inr ⟨o, hs⟩), rfl⟩, post_val h S rfl⟩
    · rename_i i _ xs e
      obtain ⟨vs, hs, rl⟩ := S.ob _ _ _ hp e
      have h : PostR K (rD K) m H Q (.int xs.length) st := h
      rw [RelKV.length rl] at h
      exact .inr ⟨_, _, rfl, hs, post_val h S rfl⟩
    · exact (h : False).elim
  · exact (h : False).elim
theorem ev_len {F : En → M D} (hm : X.mg "len" = none) (h : EvE X W e F) (hgl : Gl X "len" := by rfl) (he : starEach [e] X.env = (false, eval e X.env) :: starEach [] X.env := by rfl) (hpl : (backTo pos (starEach [] X.env)).any (·.1) = false := by rfl) :
    EvE X W (.Call (.Name "len" p) [e] [] pos) (fThen gLen F) := ev_call1B mono_D cr_lenA call1_len calm_len hm boot_len h hgl (by decide) (by decide) he hpl
def gLenT (xs : List D) : M D := pure (.int xs.length)
theorem call1_lenT : Call1 K (rT K) (rD K) (rLenA K) gLenT := fun H0 m st H xs v Q S r h => by
  obtain ⟨p, vs, rfl, _, hn, hp, rl⟩ := r
  have h : PostR K (rD K) m H Q (.int xs.length) st := h
  rw [RelL.length rl] at h
  exact .inl ⟨_, _, rfl, .inl ⟨vs, SqL.of hp, rfl⟩, post_val h S rfl⟩
theorem ev_lenT {F : En → M (List D)} (hm : X.mg "len" = none) (h : EvL X W e F) (hgl : Gl X "len" := by rfl) (he : starEach [e] X.env = (false, eval e X.env) :: starEach [] X.env := by rfl) (hpl : (backTo pos (starEach [] X.env)).any (·.1) = false := by rfl) :
    EvE X W (.Call (.Name "len" p) [e] [] pos) (fThen gLenT F) := ev_call1B mono_D cr_lenA call1_lenT (fun _ => calm_pure) hm boot_len h hgl (by decide) (by decide) he hpl
end

/-! tuple, list -/
def gTupT (xs : List D) : M D := pure (.tup xs)
def gTupV : D → M D
  | .tup xs => pure (.tup xs)
  | .ref i => rdL i >>= fun xs => pure (.tup xs)
  | _ => bad
/-- the items of a list or a tuple -/
def gItems : D → M (List D)
  | .tup xs => pure xs
  | .ref i => rdL i
  | _ => bad
theorem calm_items (d : D) : Calm (gItems d) := by
  unfold gItems
  split
  · exact calm_pure
  · exact calm_rdL
  · exact calm_bad
def rTup (K : PySem.W.Frag) : List V → Hp → VK → Prop := fun xs H Q => ∃ p ys, xs = [.ref p] ∧ ((SqL K H p ys ∧ ∀ l, H l = none → Q (.ref l) (upd H l (.tup ys))) ∨ (SqT K H p ys ∧ Q (.ref p) H))
def rLst (K : PySem.W.Frag) : List V → Hp → VK → Prop := fun xs H Q => ∃ p ys, xs = [.ref p] ∧ (SqL K H p ys ∨ SqT K H p ys) ∧ ∀ l, H l = none → Q (.ref l) (upd H l (.lst ys))
section
variable {X : Cx} {K : PySem.W.Frag} {W : WX} {p pos : Pos} {e : Expr}
theorem call1_tupT : Call1 K (rT K) (rD K) (rTup K) gTupT := fun H0 m st H xs v Q S r h => by
  obtain ⟨p, vs, rfl, _, hn, hp, rl⟩ := r
  exact ⟨p, vs, rfl, .inl ⟨SqL.of hp, fun l hl => post_tup h S rl hl⟩⟩
theorem call1_tupV : Call1 K (rD K) (rD K) (rTup K) gTupV := fun H0 m st H d v Q S r h => by
  unfold gTupV at h
  split at h
  · have r' := r
    obtain ⟨p, vs, rfl, t, rl⟩ := r
    exact ⟨p, vs, rfl, .inr ⟨t, post_val h S r'⟩⟩
  · obtain ⟨p, hp, rfl⟩ := r
    obtain ⟨xs, e, h⟩ := wp_rdL.mp (wp_bind.mp h)
    obtain ⟨vs, hs, rl, _⟩ := S.seqAt hp e
    exact ⟨p, vs, rfl, .inl ⟨hs, fun l hl => post_tup h S rl hl⟩⟩
  · exact (h : False).elim
theorem calm_tupV (d : D) : Calm (gTupV d) := by
  unfold gTupV
  split
  · exact calm_pure
  · exact calm_bind calm_rdL fun _ => calm_pure
  · exact calm_bad
theorem call1_lstV : Call1 K (rD K) (rT K) (rLst K) gItems := fun H0 m st H d v Q S r h => by
  unfold gItems at h
  split at h
  · obtain ⟨p, vs, rfl, t, rl⟩ := r
    exact ⟨p, vs, rfl, .inr t, fun l hl => post_tmp h S rl hl⟩
  · obtain ⟨p, hp, rfl⟩ := r
    obtain ⟨xs, e, h⟩ := wp_rdL.mp h
    obtain ⟨vs, hs, rl, _⟩ := S.seqAt hp e
    exact ⟨p, vs, rfl, .inl hs, fun l hl => post_tmp h S rl hl⟩
  · exact (h : False).elim
theorem ev_tupT {F : En → M (List D)} (hm : X.mg "tuple" = none) (h : EvL X W e F) (hgl : Gl X "tuple" := by rfl) (he : starEach [e] X.env = (false, eval e X.env) :: starEach [] X.env := by rfl) (hpl : (backTo pos (starEach [] X.env)).any (·.1) = false := by rfl) :
    EvE X W (.Call (.Name "tuple" p) [e] [] pos) (fThen gTupT F) := ev_call1Ty mono_D call_tuple_of call1_tupT (fun _ => calm_pure) hm (by decide +kernel) h hgl (by decide) (by decide) he hpl
theorem ev_tupV {F : En → M D} (hm : X.mg "tuple" = none) (h : EvE X W e F) (hgl : Gl X "tuple" := by rfl) (he : starEach [e] X.env = (false, eval e X.env) :: starEach [] X.env := by rfl) (hpl : (backTo pos (starEach [] X.env)).any (·.1) = false := by rfl) :
    EvE X W (.Call (.Name "tuple" p) [e] [] pos) (fThen gTupV F) := ev_call1Ty mono_D call_tuple_of call1_tupV calm_tupV hm (by decide +kernel) h hgl (by decide) (by decide) he hpl
theorem el_list {F : En → M D} (hm : X.mg "list" = none) (h : EvE X W e F) (hgl : Gl X "list" := by rfl) (he : starEach [e] X.env = (false, eval e X.env) :: starEach [] X.env := by rfl) (hpl : (backTo pos (starEach [] X.env)).any (·.1) = false := by rfl) :
    EvL X W (.Call (.Name "list" p) [e] [] pos) (fThen gItems F) := ev_call1Ty mono_T call_list_of call1_lstV calm_items hm (by decide +kernel) h hgl (by decide) (by decide) he hpl
/-! int, abs, min, max of two -/
def gInt : D → M D
  | .int i => pure (.int i)
  | .bl k => pure (.int (if k then 1 else 0))
  | _ => bad
def gAbs : D → M D
  | .int i => pure (.int (if i < 0 then -i else i))
  | _ => bad
def bMax : List D → M D
  | [.int i, .int j] => pure (.int (if j > i then j else i))
  | _ => bad
def bMin : List D → M D
  | [.int i, .int j] => pure (.int (if j < i then j else i))
  | _ => bad
theorem call1_int : Call1 K (rD K) (rD K) (fun xs H Q => (∃ i, xs = [.int i] ∧ Q (.int i) H) ∨ ∃ k, xs = [.bl k] ∧ Q (.int (if k then 1 else 0)) H) gInt := fun H0 m st H d v Q S r h => by
  unfold gInt at h
  split at h
  · cases (r : _ = _); exact .inl ⟨_, rfl, post_val h S rfl⟩
  · cases (r : _ = _); exact .inr ⟨_, rfl, post_val h S rfl⟩
  · exact (h : False).elim
theorem call1_abs : Call1 K (rD K) (rD K) (fun xs H Q => ∃ i, xs = [.int i] ∧ Q (.int (if i < 0 then -i else i)) H) gAbs := fun H0 m st H d v Q S r h => by
  unfold gAbs at h
  split at h
  · cases (r : _ = _); exact ⟨_, rfl, post_val h S rfl⟩
  · exact (h : False).elim
theorem ev_int1 {F : En → M D} (hm : X.mg "int" = none) (h : EvE X W e F) (hgl : Gl X "int" := by rfl) (he : starEach [e] X.env = (false, eval e X.env) :: starEach [] X.env := by rfl) (hpl : (backTo pos (starEach [] X.env)).any (·.1) = false := by rfl) :
    EvE X W (.Call (.Name "int" p) [e] [] pos) (fThen gInt F) := ev_call1Ty mono_D call_int1 call1_int (fun d => by unfold gInt; split <;> first | exact calm_pure | exact calm_bad) hm (by decide +kernel) h hgl (by decide) (by decide) he hpl
theorem ev_abs {F : En → M D} (hm : X.mg "abs" = none) (h : EvE X W e F) (hgl : Gl X "abs" := by rfl) (he : starEach [e] X.env = (false, eval e X.env) :: starEach [] X.env := by rfl) (hpl : (backTo pos (starEach [] X.env)).any (·.1) = false := by rfl) :
    EvE X W (.Call (.Name "abs" p) [e] [] pos) (fThen gAbs F) := ev_call1B mono_D call_abs call1_abs (fun d => by unfold gAbs; split <;> first | exact calm_pure | exact calm_bad) hm (by decide +kernel) h hgl (by decide) (by decide) he hpl
theorem callm_max : CallM K (fun xs H Q => ∃ i j, xs = [.int i, .int j] ∧ Q (.int (if j > i then j else i)) H) bMax := fun m st H ds vs Q S r h => by
  unfold bMax at h
  split at h
  · obtain ⟨v, _, rfl, rfl, v2, _, rfl, rfl, rfl⟩ := r
    exact ⟨_, _, rfl, post_val h S rfl⟩
  · exact (h : False).elim
theorem callm_min : CallM K (fun xs H Q => ∃ i j, xs = [.int i, .int j] ∧ Q (.int (if j < i then j else i)) H) bMin := fun m st H ds vs Q S r h => by
  unfold bMin at h
  split at h
  · obtain ⟨v, _, rfl, rfl, v2, _, rfl, rfl, rfl⟩ := r
    exact ⟨_, _, rfl, post_val h S rfl⟩
  · exact (h : False).elim
theorem ev_max2 {a b : Expr} {F : En → M (List D)} (hm : X.mg "max" = none) (h : EvA X W [a, b] F) (hc : X.calm = true := by rfl) (hgl : Gl X "max" := by rfl) (he : starEach [a, b] X.env = (false, eval a X.env) :: starEach [b] X.env := by rfl) (hpl : (backTo pos (starEach [b] X.env)).any (·.1) = false := by rfl) :
    EvE X W (.Call (.Name "max" p) [a, b] [] pos) (fCallB bMax F) := ev_callB (call_max2 hc) callm_max (fun d => by unfold bMax; split <;> first | exact calm_pure | exact calm_bad) hm (by decide +kernel) h hgl (by decide) (by decide) he hpl
theorem ev_min2 {a b : Expr} {F : En → M (List D)} (hm : X.mg "min" = none) (h : EvA X W [a, b] F) (hc : X.calm = true := by rfl) (hgl : Gl X "min" := by rfl) (he : starEach [a, b] X.env = (false, eval a X.env) :: starEach [b] X.env := by rfl) (hpl : (backTo pos (starEach [b] X.env)).any (·.1) = false := by rfl) :
    EvE X W (.Call (.Name "min" p) [a, b] [] pos) (fCallB bMin F) := ev_callB (call_min2 hc) callm_min (fun d => by unfold bMin; split <;> first | exact calm_pure | exact calm_bad) hm (by decide +kernel) h hgl (by decide) (by decide) he hpl
end

/-! ### isinstance with a built-in class -/
def obName : Option Ob → Option String
  | some (.lst _) => some "list"
  | some (.ro _) => some "list"
  | some (.dct _) => some "dict"
  | some (.dtt _) => some "dict"
  | none => none
def tyName (st : Sto) : D → Option String
  | .non => some "NoneType"
  | .bl _ => some "bool"
  | .int _ => some "int"
  | .str _ => some "str"
  | .tup _ => some "tuple"
  | .ref i => obName st[i]?
def gIsi (T : String) (d : D) : M D := fun st => match tyName st d with
  | some k => match kitB k T with
    | some b => .ok (.bl b) st
    | none => .bad
  | none => .bad
section
variable {X : Cx} {K : PySem.W.Frag} {W : WX} {p p2 pos : Pos} {e : Expr}
theorem tyX_of {m : List Addr} {st : Sto} {H : Hp} {d : D} {v : V} {k : String} (S : Sim K m st H) (r : Rel K m H d v) (h : tyName st d = some k) : TyX K H v (.type k) := by
  cases d with
  | non => cases (r : _ = _); cases h; exact .base .non
  | bl b => cases (r : _ = _); cases h; exact .base (.bl b)
  | int b => cases (r : _ = _); cases h; exact .base (.int b)
  | str b => cases (r : _ = _); cases h; exact .base (.str b)
  | tup xs =>
    obtain ⟨p, vs, rfl, t, _⟩ := r
    cases h
    rcases t with (t | ⟨o, t⟩) | ⟨o, its, n, e1, e2, _⟩
    · exact .base (.tup t)
    · exact .fTuple t
    · exact .kTuple e1 e2
  | ref i =>
    obtain ⟨p, hp, rfl⟩ := r
    have h : obName st[i]? = some k := h
    cases e : st[i]? with
    | none => rw [e] at h; cases h
    | some o =>
      rw [e] at h
      have z := S.ob _ _ _ hp e
      cases o with
      | lst xs => cases h; obtain ⟨vs, e, _⟩ := z; exact .base (.lst e)
      | ro xs => cases h; obtain ⟨o, vs, e, _⟩ := z; exact .base (.frz e)
      | dct xs => cases h; obtain ⟨vs, e, _⟩ := z; exact .base (.dK e)
      | dtt xs => cases h; obtain ⟨vs, e, _⟩ := z; exact .base (.dT e)
theorem calm_isi (T : String) (d : D) : Calm (gIsi T d) := fun st x st' h => by
  unfold gIsi at h
  split at h
  · split at h <;> cases h
  · cases h
theorem ev_isi {T : String} {c : Str} {F : En → M D} (hm : X.mg "isinstance" = none) (hmc : X.mg c = none) (hc : bootBuiltins c = some (.type T)) (h : EvE X W e F) (hgl : Gl X "isinstance" := by rfl) (hgc : Gl X c := by rfl)
    (hnc : c ≠ "__name__" := by decide) (hdc : (c == ("__debug__" : Str)) = false := by decide)
    (he : starEach [e, .Name c p2] X.env = (false, eval e X.env) :: starEach [.Name c p2] X.env := by rfl) (he2 : starEach [.Name c p2] X.env = (false, eval (.Name c p2) X.env) :: starEach [] X.env := by rfl) (hpl : (backTo pos (starEach [.Name c p2] X.env)).any (·.1) = false := by rfl) :
    EvE X W (.Call (.Name "isinstance" p) [e, .Name c p2] [] pos) (fThen (gIsi T) F) :=
  (pe_callB call_isi hgl hm (by decide +kernel) (pa_cons h (pa_cons (pe_bltn (v := .ty T) hgc hmc hc rfl hnc hdc) pa_nil he2) he) (by decide) (by decide) he hpl).mirImp fun σ H Q h => by
    obtain ⟨m, en, st, S, N, q⟩ := h
    refine seq_wp mono_D S N q fun m1 st1 d v H1 s1 S1 r1 N1 q1 => ?_
    unfold gIsi at q1
    split at q1
    · rename_i k hk
      split at q1
      · rename_i b hb
        exact ⟨v, .ty T, .type k, .type T, b, rfl, .ty T, tyX_of S1 r1 hk, kit_ty hb, post_val q1 S1 rfl⟩
      · exact (q1 : False).elim
    · exact (q1 : False).elim
end

/-! ### places, slices -/
def keyD : D → Option Key
  | .int i => some (.inl i)
  | .str x => some (.inr x)
  | _ => none
def lookD (kvs : List (Key × D)) (k : Key) : Option D := (kvs.find? fun kv => decide (kv.1 = k)).map (·.2)
def gIdxL (xs : List D) (b : D) : M D := match b with
  | .int i => match atI xs i with
    | some d => pure d
    | none => bad
  | _ => bad
def gIdxK (kvs : List (Key × D)) (b : D) : M D := match (keyD b).bind (lookD kvs) with
  | some d => pure d
  | none => bad
def gIdxO (o : Option Ob) (b : D) : M D := match o with
  | some (.lst xs) => gIdxL xs b
  | some (.ro xs) => gIdxL xs b
  | some (.dct kvs) => gIdxK kvs b
  | _ => bad
def gIdx (a b : D) : M D := match a with
  | .tup xs => gIdxL xs b
  | .ref j => getSt >>= fun st => gIdxO st[j]? b
  | _ => bad
theorem atI_rel {K : PySem.W.Frag} {m : List Addr} {H : Hp} {xs : List D} {vs : List V} {i : Int} {d : D} (r : RelL K m H xs vs) (h : atI xs i = some d) : ∃ v, atI vs i = some v ∧ Rel K m H d v := by
  unfold atI at h ⊢
  rw [← RelL.length r]
  cases e : ixN xs.length i with
  | none => rw [e] at h; exact nomatch h
  | some j =>
    rw [e] at h
    exact RelL.get r (show xs[j]? = some d from h)
theorem lookD_rel {K : PySem.W.Frag} {m : List Addr} {H : Hp} : ∀ {kvs : List (Key × D)} {vs : List (Key × V)} (k : Key), RelKV K m H kvs vs → (match lookD kvs k with
    | some d => ∃ v, valV vs k = some v ∧ Rel K m H d v
    | none => valV vs k = none)
  | [], _, k, r => by cases (r : _ = _); rfl
  | d :: kvs, _, k, r => by
    obtain ⟨v, w, rfl, r1, r2⟩ := r
    by_cases e : d.1 = k
    · have e1 : lookD (d :: kvs) k = some d.2 := by simp [lookD, List.find?_cons, e]
      rw [e1]
      exact ⟨v, valV_pos e, r1⟩
    · have e1 : lookD (d :: kvs) k = lookD kvs k := by simp [lookD, List.find?_cons, e]
      rw [e1, valV_neg e]
      exact lookD_rel k r2
theorem keyD_rel {K : PySem.W.Frag} {m : List Addr} {H : Hp} {d : D} {v : V} {k : Key} (h : keyD d = some k) (r : Rel K m H d v) : v = kV k := by
  cases d <;> first | (cases h; cases (r : _ = _); rfl) | cases h
def rIdxA (K : PySem.W.Frag) : R2 := fun x y H Q => rIxL K x y H Q ∨ rIxT K x y H Q ∨ (∃ a v, x = .ref a ∧ DGet H a y (some v) ∧ Q v H)
section
variable {X : Cx} {K : PySem.W.Frag} {W : WX} {p p2 pos : Pos} {a b : Expr} {Fa Fb : En → M D}
theorem ix_dict (hu : X.A.units + 1 < cLine) : IxR X (fun x y H Q => ∃ a v, x = .ref a ∧ DGet H a y (some v) ∧ Q v H) := by
  intro value slice pins s σ H x y v u Q I rx ry h hs
  obtain ⟨q, z, rfl, g, hq⟩ := h
  cases rx
  unfold subscriptTail
  refine wpAny_bind ?_
  have hT := dict_typeIs I g
  rw [getitemInPython_of_ne hT.not_modules]
  refine wpAny_bind (wpAny_specialOf hT PySem.F.slot_dict_getitem.lookup ?_)
  have fin : wpAny (model X.prog X.w) X.A (subscripted slice false (.ref q) u) (fun r s₃ => wpAny (model X.prog X.w) X.A (letTemporaryGo value (.ref q) r >>= fun _ => pure r) (EP X pins σ Q) X.xe s₃) X.xe s := by
    rw [hs]
    exact wpAny_operating (d_getItem hu I g ry fun w' s3 I3 rw' => wpAny_bind (wpAny_letTemporaryGo (wpAny_pure ⟨z, H, I3, rw', hq⟩)))
  first
    | exact wpAny_pure (wpAny_bind fin)
    | exact wpAny_bind (wpAny_pure (wpAny_bind fin))
    | exact wpAny_bind fin
theorem ix_all (hu : X.A.units + 1 < cLine) : IxR X (rIdxA X.K) := ix_list.or (ix_tup.or (ix_dict hu))
theorem idxL_of {m : List Addr} {st : Sto} {H : Hp} {xs : List D} {vs : List V} {dy : D} {y : V} {Q : VK} (S : Sim K m st H) (rl : RelL K m H xs vs) (ry : Rel K m H dy y) (h : (gIdxL xs dy st).Wp (PostR K (rD K) m H Q) (fun _ _ => False)) :
    ∃ i v, y = .int i ∧ atI vs i = some v ∧ Q v H := by
  cases dy with
  | int i =>
    cases e : atI xs i with
    | none =>
      simp only [gIdxL, e] at h
      exact (h : False).elim
    | some d =>
      simp only [gIdxL, e] at h
      cases (ry : _ = _)
      obtain ⟨v, e2, rv⟩ := atI_rel rl e
      exact ⟨i, v, rfl, e2, post_val h S rv⟩
  | _ => exact (h : False).elim
theorem opm_idx : OpM K (rIdxA K) gIdx := fun m st H dx dy x y Q S rx ry h => by
  unfold gIdx at h
  split at h
  · obtain ⟨p, vs, rfl, t, rl⟩ := rx
    obtain ⟨i, v, rfl, e, q⟩ := idxL_of S rl ry h
    exact .inr (.inl ⟨p, vs, i, v, rfl, rfl, t, e, q⟩)
  · obtain ⟨p, hp, rfl⟩ := rx
    rename_i j
    have h : (gIdxO (st[j]?) dy st).Wp (PostR K (rD K) m H Q) (fun _ _ => False) := wp_bind.mp h
    generalize e : st[j]? = ob at h
    unfold gIdxO at h
    split at h
    · rename_i xs
      obtain ⟨vs, hs, rl⟩ := S.ob _ _ _ hp e
      obtain ⟨i, v, rfl, e, q⟩ := idxL_of S rl ry h
      exact .inl ⟨p, vs, i, v, rfl, rfl, SqL.of hs, e, q⟩
    · rename_i xs
      obtain ⟨o, vs, hs, rl⟩ := S.ob _ _ _ hp e
      obtain ⟨i, v, rfl, e, q⟩ := idxL_of S rl ry h
      exact .inl ⟨p, vs, i, v, rfl, rfl, .inl (.inr ⟨o, hs⟩), e, q⟩
    · rename_i kvs
      obtain ⟨vs, hd, rk⟩ := S.ob _ _ _ hp e
      unfold gIdxK at h
      cases hk : keyD dy with
      | none => rw [hk] at h; exact (h : False).elim
      | some k =>
        rw [hk] at h
        have z := lookD_rel k rk
        cases e2 : lookD kvs k with
        | none =>
          have e3 : (some k).bind (lookD kvs) = none := e2
          rw [e3] at h
          exact (h : False).elim
        | some d =>
          have e3 : (some k).bind (lookD kvs) = some d := e2
          rw [e3] at h
          rw [e2] at z
          obtain ⟨v, z1, z2⟩ := z
          refine .inr (.inr ⟨p, v, rfl, ?_, post_val h S z2⟩)
          rw [keyD_rel hk ry, ← z1]
          exact DGet.k hd
    · exact (h : False).elim
  · exact (h : False).elim
theorem calm_idxL (xs : List D) (y : D) : Calm (gIdxL xs y) := by
  unfold gIdxL
  split
  · split
    · exact calm_pure
    · exact calm_bad
  · exact calm_bad
theorem calm_getSt : Calm getSt := fun st x st' h => nomatch h
theorem calm_idx (x y : D) : Calm (gIdx x y) := by
  unfold gIdx
  split
  · exact calm_idxL _ _
  · refine calm_bind calm_getSt fun st => ?_
    rename_i j
    generalize st[j]? = ob
    unfold gIdxO
    split
    · exact calm_idxL _ _
    · exact calm_idxL _ _
    · unfold gIdxK
      split
      · exact calm_pure
      · exact calm_bad
    · exact calm_bad
  · exact calm_bad
theorem ev_ix (hu : X.A.units + 1 < cLine) (ha : EvE X W a Fa) (hb : EvE X W b Fb) (hs : PlainIx b := by exact fun _ _ => rfl) : EvE X W (.Subscript a b pos) (fOp gIdx Fa Fb) :=
  (pe_ix (ix_all hu) ha hb hs).mirImp fun σ H Q h => tOp_of opm_idx calm_idx h

def cutD (xs : List D) (lo hi : Option Int) : List D := (xs.drop (HT.sIx xs.length 0 lo)).take (HT.sIx xs.length xs.length hi - HT.sIx xs.length 0 lo)
def gSl (a : D) (lo hi : Option Int) : M D := match a with
  | .tup xs => pure (.tup (cutD xs lo hi))
  | .ref j => rdL j >>= fun xs => alloc (.lst (cutD xs lo hi))
  | _ => bad
def oNone : En → M (Option Int) := fun _ => pure none
def oSome (F : En → M D) : En → M (Option Int) := fun en => F en >>= fun d => match d with
  | .int i => pure (some i)
  | _ => bad
def fSl (F : En → M D) (L U : En → M (Option Int)) : En → M D := fun en => F en >>= fun a => L en >>= fun lo => U en >>= fun hi => gSl a lo hi
abbrev EvO (X : Cx) (W : WX) (e : Option Expr) (F : En → M (Option Int)) : Prop := PO X e (tG X.K X.mg rB W F)
theorem _root_.L2.PO.mirImp {X : Cx} {e : Option Expr} {t t' : TO} (h : PO X e t) (i : ∀ σ H Q, t' σ H Q → t σ H Q) : PO X e t' := ⟨fun pins s σ H Q I q => h.run pins s σ H Q I (i σ H Q q)⟩
theorem eo_none : EvO X W none oNone := po_none.mirImp fun σ H Q ⟨m, en, st, S, N, q⟩ => (wp_pure.mp q) _ m H .refl S rfl
theorem eo_some {e : Expr} {F : En → M D} (h : EvE X W e F) : EvO X W (some e) (oSome F) := (po_some h).mirImp fun σ H Q ⟨m, en, st, S, N, q⟩ =>
  seq_wp mono_B S N q fun m1 st1 d v H1 s1 S1 r1 N1 q1 => by
    split at q1
    · cases (r1 : _ = _)
      exact ⟨_, rfl, (wp_pure.mp q1) _ m1 H1 .refl S1 rfl⟩
    · exact (q1 : False).elim
theorem cut_rel {K : PySem.W.Frag} {m : List Addr} {H : Hp} {xs : List D} {vs : List V} (r : RelL K m H xs vs) (lo hi : Option Int) : RelL K m H (cutD xs lo hi) (cutV vs lo hi) := by
  unfold cutD cutV
  rw [RelL.length r]
  exact (r.drop _).take _
theorem ev_sl {e : Expr} {lo hi : Option Expr} {F : En → M D} {L U : En → M (Option Int)} (h : EvE X W e F) (hl : EvO X W lo L) (hh : EvO X W hi U) : EvE X W (.Subscript e (.Slice lo hi none p2) pos) (fSl F L U) :=
  (pe_slice (sl_tupA.or sl_list) h hl hh).mirImp fun σ H Q ⟨m, en, st, S, N, q⟩ => by
    refine seq_wp mono_D S N q fun m1 st1 d v H1 s1 S1 r1 N1 q1 => ?_
    refine seq_wp mono_D S1 N1 q1 fun m2 st2 lo lo' H2 s2 S2 r2 N2 q2 => ?_
    cases (r2 : lo = lo')
    refine seq_wp mono_D S2 N2 q2 fun m3 st3 hi hi' H3 s3 S3 r3 N3 q3 => ?_
    cases (r3 : hi = hi')
    have r4 : Rel X.K m3 H3 d v := Rel.sub (s2.trans s3).sub r1
    unfold gSl at q3
    split at q3
    · have r5 := r4
      obtain ⟨p, vs, rfl, t, rl⟩ := r4
      refine .inl ⟨p, vs, rfl, t, fun w => ?_, fun w p2 hp2 => post_tup q3 S3 (cut_rel rl lo hi) hp2⟩
      rename_i xs
      have e : cutD xs lo hi = xs := by
        unfold cutD
        rw [RelL.length rl, w.1, w.2, List.drop_zero, Nat.sub_zero, ← RelL.length rl, List.take_length]
      rw [e] at q3
      exact post_val q3 S3 r5
    · obtain ⟨p, hp, rfl⟩ := r4
      obtain ⟨xs, e, q3⟩ := wp_rdL.mp (wp_bind.mp q3)
      obtain ⟨vs, hs, rl, _⟩ := S3.seqAt hp e
      exact .inr ⟨p, vs, rfl, hs, fun p2 hp2 => post_new q3 S3 (cut_rel rl lo hi) hp2⟩
    · exact (q3 : False).elim
end
end Mir
end part_Mir4
section part_Mir5
set_option maxHeartbeats 1000000
/-! Mir5: what is walked, comprehensions, calls of own defs. -/
namespace Mir
open PySem PySem.Spec PyProof.Rows L2

def noErr {α : Type} (x : M α) : M α := fun st => match x st with
  | .ok a st' => .ok a st'
  | _ => .bad
theorem wp_noErr {α : Type} {x : M α} {st : Sto} {Q : α → Sto → Prop} {E : Exn → Sto → Prop} : (noErr x st).Wp Q E ↔ (x st).Wp Q (fun _ _ => False) := by
  unfold noErr
  cases x st <;> exact Iff.rfl
theorem wp_any {α : Type} {o : Out α} {Q : α → Sto → Prop} {E : Exn → Sto → Prop} (h : o.Wp Q (fun _ _ => False)) : o.Wp Q E := wp_mono h (fun _ _ z => z) fun _ _ z => z.elim
theorem tG_mono {K : PySem.W.Frag} {mg : Str → Option Value} {α β : Type} {R : RR α β} {W : WX} {F : En → M α} {σ : SS} {H : Hp} {Q Q' : β → Hp → Prop} (h : tG K mg R W F σ H Q) (k : ∀ b H, Q b H → Q' b H) : tG K mg R W F σ H Q' := by
  obtain ⟨m, en, st, S, N, q⟩ := h
  exact ⟨m, en, st, S, N, wp_mono q (fun a st' z b m' H' s S' r => k _ _ (z b m' H' s S' r)) fun _ _ z => z⟩

/-! ### what is walked -/
def Sq (K : PySem.W.Frag) (H : Hp) (t : Bool) (p : Addr) (vs : List V) : Prop := if t = true then SqT K H p vs else SqL K H p vs
/-- p holds these, and goes on to as long as the watched lists stay -/
def Src (K : PySem.W.Frag) (m : List Addr) (H : Hp) (t : Bool) (p : Addr) (xs : List D) (w : Watch) : Prop :=
  ∀ m1 st1 H1, Step K m H m1 H1 → Sim K m1 st1 H1 → stays w st1 → ∃ vs, Sq K H1 t p vs ∧ RelL K m1 H1 xs vs
section
variable {K : PySem.W.Frag} {m : List Addr} {H : Hp} {st : Sto} {xs ys : List D} {vs ws : List V} {p q : Addr} {w w2 : Watch}
theorem src_tup (t : SqT K H p vs) (r : RelL K m H xs vs) : Src K m H true p xs [] := fun m1 st1 H1 s _ _ => ⟨vs, s.tups _ _ t, RelL.sub s.sub r⟩
theorem src_tmp (hn : p ∉ m) (h : H p = some (.lst vs)) (r : RelL K m H xs vs) : Src K m H false p xs [] := fun m1 st1 H1 s _ _ => ⟨vs, SqL.of (s.keep _ _ h hn), RelL.sub s.sub r⟩
theorem src_lst {i : Nat} (hi : m[i]? = some p) : Src K m H false p xs [(i, xs)] := fun m1 st1 H1 s S h => by
  obtain ⟨vs, h1, h2, _⟩ := S.seqAt (s.get hi) (h (i, xs) (by simp))
  exact ⟨vs, h1, h2⟩
theorem stays_left (h : stays (w ++ w2) st) : stays w st := fun q hq => h q (List.mem_append_left _ hq)
theorem stays_right (h : stays (w ++ w2) st) : stays w2 st := fun q hq => h q (List.mem_append_right _ hq)
theorem Src.more (h : Src K m H true p xs w) : Src K m H true p xs (w ++ w2) := fun m1 st1 H1 s S z => h m1 st1 H1 s S (stays_left z)
theorem it_tup (h : Src K m H true p xs w) : ItOk K m H (Itt K p) xs w where
  go := fun m1 st1 H1 i s S z hi => by
    obtain ⟨vs, t, r⟩ := h m1 st1 H1 s S z
    obtain ⟨v, e, _⟩ := RelL.get (i := i) r (List.getElem?_eq_getElem hi)
    exact ⟨vs, v, t, e⟩
  yld := fun m1 st1 H1 i d x H2 s S z e y => by
    obtain ⟨vs, t, r⟩ := h m1 st1 H1 s S z
    obtain ⟨rfl, y⟩ := y
    obtain ⟨d', e', r'⟩ := RelL.getV r (y vs t)
    rw [e] at e'; cases e'
    exact ⟨.refl, S, r'⟩
  stop := fun m1 st1 H1 i s S z hi => by
    obtain ⟨vs, t, r⟩ := h m1 st1 H1 s S z
    exact ⟨vs, t, by rw [← RelL.length r]; exact hi⟩
theorem it_lst (h : Src K m H false p xs w) : ItOk K m H (Itl K p) xs w where
  go := fun m1 st1 H1 i s S z hi => by
    obtain ⟨vs, t, r⟩ := h m1 st1 H1 s S z
    obtain ⟨v, e, _⟩ := RelL.get (i := i) r (List.getElem?_eq_getElem hi)
    exact ⟨vs, v, t, e⟩
  yld := fun m1 st1 H1 i d x H2 s S z e y => by
    obtain ⟨vs, t, r⟩ := h m1 st1 H1 s S z
    obtain ⟨rfl, y⟩ := y
    obtain ⟨d', e', r'⟩ := RelL.getV r (y vs t)
    rw [e] at e'; cases e'
    exact ⟨.refl, S, r'⟩
  stop := fun m1 st1 H1 i s S z hi => by
    obtain ⟨vs, t, r⟩ := h m1 st1 H1 s S z
    exact ⟨vs, t, by rw [← RelL.length r]; exact hi⟩
def rngD (lo : Int) (n : Nat) : List D := (List.range n).map fun i => D.int (lo + (i : Nat))
theorem it_rng {lo : Int} {n : Nat} : ItOk K m H (Itr lo n) (rngD lo n) [] where
  go := fun m1 st1 H1 i s S z hi => (show i < n by simpa [rngD] using hi)
  yld := fun m1 st1 H1 i d x H2 s S z e y => by
    obtain ⟨rfl, rfl⟩ := y
    refine ⟨.refl, S, ?_⟩
    unfold rngD at e
    rw [List.getElem?_map] at e
    have hi : i < n := by
      by_cases h : i < n
      · exact h
      · rw [List.getElem?_eq_none (by simpa using h)] at e; cases e
    rw [List.getElem?_range hi] at e
    cases e
    rfl
  stop := fun m1 st1 H1 i s S z hi => (show n ≤ i by simpa [rngD] using hi)
/-- pairs that come new -/
def zipD (xs ys : List D) : List D := List.zipWith (fun a b => D.tup [a, b]) xs ys
theorem pair_new {m1 : List Addr} {st1 : Sto} {H1 : Hp} {T : Addr} {a b : D} {x y : V} (S : Sim K m1 st1 H1) (hT : H1 T = none) (ra : Rel K m1 H1 a x) (rb : Rel K m1 H1 b y) :
    Step K m1 H1 m1 (upd H1 T (.tup [x, y])) ∧ Sim K m1 st1 (upd H1 T (.tup [x, y])) ∧ Rel K m1 (upd H1 T (.tup [x, y])) (.tup [a, b]) (.ref T) :=
  ⟨Step.new hT, S.new hT, T, [x, y], rfl, SqT.of upd_same, _, _, rfl, Rel.sub (Step.new hT).sub ra, _, _, rfl, Rel.sub (Step.new hT).sub rb, rfl⟩
theorem zip_get {i : Nat} {d : D} (e : (zipD xs ys)[i]? = some d) : ∃ a b, xs[i]? = some a ∧ ys[i]? = some b ∧ d = .tup [a, b] := by
  unfold zipD at e
  rw [List.getElem?_zipWith] at e
  cases h1 : xs[i]? with
  | none => rw [h1] at e; cases e
  | some a =>
    cases h2 : ys[i]? with
    | none => rw [h1, h2] at e; cases e
    | some b => rw [h1, h2] at e; cases e; exact ⟨a, b, rfl, rfl, rfl⟩
theorem it_zipT (h : Src K m H true p xs w) (h2 : Src K m H true q ys w) : ItOk K m H (RZ.ItzT K p q) (zipD xs ys) w where
  go := fun m1 st1 H1 i s S z hi => by
    obtain ⟨vs, t, r⟩ := h m1 st1 H1 s S z
    obtain ⟨ws, t2, r2⟩ := h2 m1 st1 H1 s S z
    have hi : i < min xs.length ys.length := by simpa [zipD] using hi
    obtain ⟨v, e, _⟩ := RelL.get (i := i) r (List.getElem?_eq_getElem (by omega))
    obtain ⟨u, e2, _⟩ := RelL.get (i := i) r2 (List.getElem?_eq_getElem (by omega))
    exact ⟨vs, ws, v, u, t, t2, e, e2⟩
  yld := fun m1 st1 H1 i d x H2 s S z e y => by
    obtain ⟨vs, t, r⟩ := h m1 st1 H1 s S z
    obtain ⟨ws, t2, r2⟩ := h2 m1 st1 H1 s S z
    obtain ⟨T, x1, y1, rfl, hT, rfl, k1, k2⟩ := y
    obtain ⟨a, b, e1, e2, rfl⟩ := zip_get e
    obtain ⟨a', f1, ra⟩ := RelL.getV r (k1 vs t)
    obtain ⟨b', f2, rb⟩ := RelL.getV r2 (k2 ws t2)
    rw [e1] at f1; cases f1
    rw [e2] at f2; cases f2
    exact pair_new S hT ra rb
  stop := fun m1 st1 H1 i s S z hi => by
    obtain ⟨vs, t, r⟩ := h m1 st1 H1 s S z
    obtain ⟨ws, t2, r2⟩ := h2 m1 st1 H1 s S z
    have hi : min xs.length ys.length ≤ i := by simpa [zipD] using hi
    have l1 := RelL.length r
    have l2 := RelL.length r2
    exact ⟨vs, ws, t, t2, by omega⟩
theorem it_zipL (h : Src K m H false p xs w) (h2 : Src K m H false q ys w) : ItOk K m H (Itz K p q) (zipD xs ys) w where
  go := fun m1 st1 H1 i s S z hi => by
    obtain ⟨vs, t, r⟩ := h m1 st1 H1 s S z
    obtain ⟨ws, t2, r2⟩ := h2 m1 st1 H1 s S z
    have hi : i < min xs.length ys.length := by simpa [zipD] using hi
    obtain ⟨v, e, _⟩ := RelL.get (i := i) r (List.getElem?_eq_getElem (by omega))
    obtain ⟨u, e2, _⟩ := RelL.get (i := i) r2 (List.getElem?_eq_getElem (by omega))
    exact ⟨vs, ws, v, u, t, t2, e, e2⟩
  yld := fun m1 st1 H1 i d x H2 s S z e y => by
    obtain ⟨vs, t, r⟩ := h m1 st1 H1 s S z
    obtain ⟨ws, t2, r2⟩ := h2 m1 st1 H1 s S z
    obtain ⟨T, x1, y1, rfl, hT, rfl, k1, k2⟩ := y
    obtain ⟨a, b, e1, e2, rfl⟩ := zip_get e
    obtain ⟨a', f1, ra⟩ := RelL.getV r (k1 vs t)
    obtain ⟨b', f2, rb⟩ := RelL.getV r2 (k2 ws t2)
    rw [e1] at f1; cases f1
    rw [e2] at f2; cases f2
    exact pair_new S hT ra rb
  stop := fun m1 st1 H1 i s S z hi => by
    obtain ⟨vs, t, r⟩ := h m1 st1 H1 s S z
    obtain ⟨ws, t2, r2⟩ := h2 m1 st1 H1 s S z
    have hi : min xs.length ys.length ≤ i := by simpa [zipD] using hi
    have l1 := RelL.length r
    have l2 := RelL.length r2
    exact ⟨vs, ws, t, t2, by omega⟩
end
def gWalk : D → M (List D × Watch)
  | .tup xs => pure (xs, [])
  | .ref i => rdL i >>= fun xs => pure (xs, [(i, xs)])
  | _ => bad
def gWalkT (xs : List D) : M (List D × Watch) := pure (xs, [])
def bRange1 : List D → M (List D × Watch)
  | [.int j] => if -(2 ^ 62) ≤ j ∧ j < 2 ^ 62 then pure (rngD 0 j.toNat, []) else bad
  | _ => bad
def bRange2 : List D → M (List D × Watch)
  | [.int i, .int j] => if (-(2 ^ 62) ≤ i ∧ i < 2 ^ 62) ∧ -(2 ^ 62) ≤ j ∧ j < 2 ^ 62 then pure (rngD i (j - i).toNat, []) else bad
  | _ => bad
def bZip : List D → M (List D × Watch)
  | [.tup xs, .tup ys] => pure (zipD xs ys, [])
  | [.ref i, .ref j] => rdL i >>= fun xs => rdL j >>= fun ys => pure (zipD xs ys, [(i, xs), (j, ys)])
  | _ => bad
section
variable {X : Cx} {W : WX} {p pos : Pos} {tg e e2 : Expr}
theorem ei_val {F : En → M D} (h : EvE X W e F) : EvI X W tg e (fThen gWalk F) := ((pi_tup h).mirOr (pi_list h)).mirImp fun σ H R q => by
  obtain ⟨m, en, st, S, N, q⟩ := q
  -- which of the two: by what the mirror gives
  cases eF : F en st with
  | bad => have q : (M.bind (F en) gWalk st).Wp _ _ := q; simp only [M.bind, eF] at q; exact q.elim
  | err x st1 =>
    refine .inl ⟨m, en, st, S, N, ?_⟩
    have q' : (M.bind (F en) gWalk st).Wp _ _ := q
    simp only [M.bind, eF] at q'
    rw [eF]
    exact q'
  | ok d st1 =>
    have q' : (M.bind (F en) gWalk st).Wp _ _ := q
    simp only [M.bind, eF] at q'
    cases d with
    | tup xs =>
      refine .inl ⟨m, en, st, S, N, ?_⟩
      rw [eF]
      intro v m1 H1 s1 S1 r
      obtain ⟨p, vs, rfl, t, rl⟩ := r
      exact ⟨p, rfl, ⟨vs, t⟩, q' (Itt X.K p) m1 H1 s1 S1 (it_tup (src_tup t rl))⟩
    | ref i =>
      refine .inr ⟨m, en, st, S, N, ?_⟩
      rw [eF]
      intro v m1 H1 s1 S1 r
      obtain ⟨p, hp, rfl⟩ := r
      obtain ⟨xs, e1, q2⟩ := wp_rdL.mp (wp_bind.mp (show ((rdL i >>= fun xs => pure (xs, [(i, xs)])) st1).Wp _ _ from q'))
      obtain ⟨vs, hs, rl, _⟩ := S1.seqAt hp e1
      exact ⟨p, rfl, ⟨vs, hs⟩, (wp_pure.mp q2) (Itl X.K p) m1 H1 s1 S1 (it_lst (src_lst hp))⟩
    | non => exact q'.elim
    | bl b => exact q'.elim
    | int b => exact q'.elim
    | str b => exact q'.elim
theorem ei_tmp {F : En → M (List D)} (h : EvL X W e F) : EvI X W tg e (fThen gWalkT F) := (pi_list h).mirImp fun σ H R ⟨m, en, st, S, N, q⟩ =>
  seq_wp mono_I S N q fun m1 st1 xs v H1 s1 S1 r N1 q1 => by
    obtain ⟨p, vs, rfl, _, hn, hp, rl⟩ := r
    exact ⟨p, rfl, ⟨vs, SqL.of hp⟩, (wp_pure.mp q1) (Itl X.K p) m1 H1 .refl S1 (it_lst (src_tmp hn hp rl))⟩
theorem ei_range1 {F : En → M (List D)} (hm : X.mg "range" = none) (h : EvA X W [e] F) (hg : Gl X "range" := by rfl) (hs : starEach [e] X.env = [(false, eval e X.env)] := by rfl) : EvI X W tg (.Call (.Name "range" p) [e] [] pos) (fThen bRange1 F) :=
  (pi_range1 hg hm h hs).mirImp fun σ H R ⟨m, en, st, S, N, q⟩ => seq_wp mono_I S N q fun m1 st1 ds vs H1 s1 S1 r N1 q1 => by
    unfold bRange1 at q1
    split at q1
    · split at q1
      · rename_i c
        obtain ⟨v, _, rfl, rfl, rfl⟩ := r
        exact ⟨_, rfl, c.1, c.2, (wp_pure.mp q1) _ m1 H1 .refl S1 it_rng⟩
      · exact (q1 : False).elim
    · exact (q1 : False).elim
theorem ei_range2 {F : En → M (List D)} (hm : X.mg "range" = none) (h : EvA X W [e, e2] F) (hg : Gl X "range" := by rfl) (hs : starEach [e, e2] X.env = [(false, eval e X.env), (false, eval e2 X.env)] := by rfl) (hs2 : starEach [e2] X.env = [(false, eval e2 X.env)] := by rfl) :
    EvI X W tg (.Call (.Name "range" p) [e, e2] [] pos) (fThen bRange2 F) :=
  (pi_range2 hg hm h hs hs2).mirImp fun σ H R ⟨m, en, st, S, N, q⟩ => seq_wp mono_I S N q fun m1 st1 ds vs H1 s1 S1 r N1 q1 => by
    unfold bRange2 at q1
    split at q1
    · split at q1
      · rename_i c
        obtain ⟨v, _, rfl, rfl, v2, _, rfl, rfl, rfl⟩ := r
        exact ⟨_, _, rfl, ⟨c.1.1, c.1.2, c.2.1, c.2.2⟩, (wp_pure.mp q1) _ m1 H1 .refl S1 it_rng⟩
      · exact (q1 : False).elim
    · exact (q1 : False).elim
theorem ei_zip {F : En → M (List D)} {elts : List Expr} {kk : Nat} {tpos : Pos} (hm : X.mg "zip" = none) (h : EvA X W [e, e2] F) (hg : Gl X "zip" := by rfl) (hs : starEach [e, e2] X.env = (false, eval e X.env) :: starEach [e2] X.env := by rfl) (hpl : (backTo pos (starEach [e2] X.env)).any (·.1) = false := by rfl) :
    EvI X W (.Tuple elts kk tpos) (.Call (.Name "zip" p) [e, e2] [] pos) (fThen bZip F) :=
  (RZ.pi_zipA hg hm h hs hpl).mirImp fun σ H R ⟨m, en, st, S, N, q⟩ => seq_wp mono_I S N q fun m1 st1 ds vs H1 s1 S1 r N1 q1 => by
    unfold bZip at q1
    split at q1
    · obtain ⟨v, _, rfl, ⟨a, us, rfl, t, rl⟩, v2, _, rfl, ⟨b, ws, rfl, t2, rl2⟩, rfl⟩ := r
      exact ⟨a, b, us, ws, rfl, .inr ⟨t, t2, (wp_pure.mp q1) _ m1 H1 .refl S1 (it_zipT (src_tup t rl) (src_tup t2 rl2))⟩⟩
    · rename_i i j
      obtain ⟨v, _, rfl, ⟨a, ha, rfl⟩, v2, _, rfl, ⟨b, hb, rfl⟩, rfl⟩ := r
      obtain ⟨xs, e1, q2⟩ := wp_rdL.mp (wp_bind.mp q1)
      obtain ⟨ys, e2, q3⟩ := wp_rdL.mp (wp_bind.mp q2)
      obtain ⟨us, hs, rl, _⟩ := S1.seqAt ha e1
      obtain ⟨ws, hs2, rl2, _⟩ := S1.seqAt hb e2
      refine ⟨a, b, us, ws, rfl, .inl ⟨hs, hs2, (wp_pure.mp q3) _ m1 H1 .refl S1 (it_zipL (fun m2 st2 H2 s S2 z => ?_) (fun m2 st2 H2 s S2 z => ?_))⟩⟩
      · exact src_lst ha m2 st2 H2 s S2 (fun q hq => by rw [List.mem_singleton.mp hq]; exact z (i, xs) (by simp))
      · exact src_lst hb m2 st2 H2 s S2 (fun q hq => by rw [List.mem_singleton.mp hq]; exact z (j, ys) (by simp))
    · exact (q1 : False).elim
end

/-! ### comprehensions -/
def wipeD (en : En) : List Nat → En
  | [] => en
  | v :: vs => (wipeD en vs).set v none
theorem relN_wipe {K : PySem.W.Frag} {m : List Addr} {H : Hp} {en : En} {σ : SS} (N : RelN K m H en σ) : ∀ vs : List Nat, RelN K m H (wipeD en vs) (wipe σ vs)
  | [] => N
  | v :: vs => (relN_wipe N vs).setNone v none
theorem wipe_set {σ : SS} {i : Nat} {u : Option V} : ∀ {vs : List Nat}, i ∈ vs → wipe (σ.set i u) vs = wipe σ vs
  | v :: vs, h => by
    show (wipe (σ.set i u) vs).set v none = (wipe σ vs).set v none
    by_cases hm : i ∈ vs
    · rw [wipe_set hm]
    · have e : i = v := by
        rcases List.mem_cons.mp h with e | e
        · exact e
        · exact absurd e hm
      subst e
      refine List.ext_getElem? fun j => ?_
      by_cases hj : i = j
      · subst hj
        by_cases hl : i < σ.length
        · rw [List.getElem?_set_self (by rw [wipe_length]; simpa using hl), List.getElem?_set_self (by rw [wipe_length]; exact hl)]
        · rw [List.getElem?_eq_none (by rw [List.length_set, wipe_length]; simpa using hl), List.getElem?_eq_none (by rw [List.length_set, wipe_length]; simpa using hl)]
      · rw [List.getElem?_set_ne hj, List.getElem?_set_ne hj]
        have z : ∀ (ws : List Nat) (τ : SS), i ≠ j → (wipe (τ.set i u) ws)[j]? = (wipe τ ws)[j]? := fun ws => by
          induction ws with
          | nil => intro τ hne; exact List.getElem?_set_ne hne
          | cons w ws ih =>
            intro τ hne
            show ((wipe (τ.set i u) ws).set w none)[j]? = ((wipe τ ws).set w none)[j]?
            by_cases hw : w = j
            · subst hw
              by_cases hl : w < τ.length
              · rw [List.getElem?_set_self (by rw [wipe_length]; simpa using hl), List.getElem?_set_self (by rw [wipe_length]; exact hl)]
              · rw [List.getElem?_eq_none (by rw [List.length_set, wipe_length]; simpa using hl), List.getElem?_eq_none (by rw [List.length_set, wipe_length]; simpa using hl)]
            · rw [List.getElem?_set_ne hw, List.getElem?_set_ne hw]
              exact ih τ hne
        exact z vs σ hj
theorem wipe_wipe (σ : SS) (vs : List Nat) : wipe (wipe σ vs) vs = wipe σ vs := by
  have gen : ∀ (ws : List Nat), (∀ i ∈ ws, i ∈ vs) → wipe (wipe σ ws) vs = wipe σ vs := fun ws => by
    induction ws with
    | nil => intro _; rfl
    | cons w ws ih =>
      intro h
      show wipe ((wipe σ ws).set w none) vs = wipe σ vs
      rw [wipe_set (h w List.mem_cons_self)]
      exact ih fun i hi => h i (List.mem_cons_of_mem _ hi)
  exact gen vs fun _ h => h
section
variable {K : PySem.W.Frag} {m : List Addr} {H : Hp} {st : Sto} {p : Addr} {us ws : List V}
theorem sqT_upd_lst {q : Addr} {vs : List V} (hp : H p = some (.lst us)) (h : SqT K H q vs) : SqT K (upd H p (.lst ws)) q vs := by
  rcases h with (h | ⟨ob, h⟩) | h
  · exact .inl (.inl (by rw [upd_ne (fun z => by rw [z, hp] at h; cases h)]; exact h))
  · exact .inl (.inr ⟨ob, by rw [upd_ne (fun z => by rw [z, hp] at h; cases h)]; exact h⟩)
  · exact .inr h
theorem sub_beside (hp : H p = some (.lst us)) : Sub K m H m (upd H p (.lst ws)) := ⟨fun h => h, fun _ _ h => sqT_upd_lst hp h⟩
theorem Sim.beside (S : Sim K m st H) (hn : p ∉ m) (hp : H p = some (.lst us)) : Sim K m st (upd H p (.lst ws)) :=
  ⟨S.len, S.nd, fun i q o h1 h2 => (S.ob i q o h1 h2).sub (sub_beside hp) (upd_ne (fun z => hn (z ▸ List.mem_of_getElem? h1)))⟩
end
/-- a comprehension's target: names of its own -/
def TgOk (K : PySem.W.Frag) (vs : List Nat) (t : TG) (G : D → En → M En) : Prop := ∀ m en st d v σ H Q, Sim K m st H → RelN K m H en σ → Rel K m H d v →
  (G d en st).Wp (fun en' st' => st' = st → ∀ σ', RelN K m H en' σ' → wipe σ' vs = wipe σ vs → Q σ' H) (fun _ _ => False) → t v σ H Q
def TgsOk (K : PySem.W.Frag) (vs : List Nat) (t : TGs) (G : List D → En → M En) : Prop := ∀ m en st d v σ H Q, Sim K m st H → RelN K m H en σ → RelL K m H d v →
  (G d en st).Wp (fun en' st' => st' = st → ∀ σ', RelN K m H en' σ' → wipe σ' vs = wipe σ vs → Q σ' H) (fun _ _ => False) → t v σ H Q
section
variable {K : PySem.W.Frag} {vs : List Nat}
theorem tgOk_name {i : Nat} (hi : i ∈ vs := by simp) : TgOk K vs (gName i) (gtName i) := fun m en st d v σ H Q S N r h => (wp_pure.mp h) rfl _ (N.set r i) (wipe_set hi)
theorem tgsOk_nil : TgsOk K vs gNil gtNil := fun m en st d v σ H Q S N r h => by
  cases d with
  | nil => exact ⟨r, (wp_pure.mp h) rfl _ N rfl⟩
  | cons d ds => exact (h : False).elim
theorem tgsOk_cons {t : TG} {u : TGs} {G : D → En → M En} {G2 : List D → En → M En} (h1 : TgOk K vs t G) (h2 : TgsOk K vs u G2) : TgsOk K vs (gCons t u) (gtCons G G2) := fun m en st d v σ H Q S N r h => by
  cases d with
  | nil => exact (h : False).elim
  | cons d ds =>
    obtain ⟨x, xs, rfl, r1, r2⟩ := r
    refine ⟨x, xs, rfl, h1 m en st d x σ H _ S N r1 (wp_mono (wp_bind.mp h) (fun en1 st1 q e σ1 N1 z1 => ?_) fun _ _ z => z)⟩
    subst e
    exact h2 m en1 st1 ds xs σ1 H Q S N1 r2 (wp_mono q (fun en2 st2 q e σ2 N2 z2 => q e σ2 N2 (z2.trans z1)) fun _ _ z => z)
theorem tgOk_tup {n : Nat} {t : TGs} {G : List D → En → M En} (h : TgsOk K vs t G) : TgOk K vs (gTup K n t) (gtTup n G) := fun m en st d v σ H Q S N r q => by
  unfold gtTup at q
  split at q
  · split at q
    · rename_i ds hl
      obtain ⟨p, us, rfl, t, rl⟩ := r
      exact ⟨p, us, rfl, t, (RelL.length rl).symm.trans hl, h m en st ds us σ H Q S N rl q⟩
    · exact (q : False).elim
  · exact (q : False).elim
end
abbrev W0 : WX := fun _ _ _ _ => False
open Classical in
noncomputable def compL (en : En) (G : D → En → M En) (T : En → M Bool) (E : En → M D) (w : Watch) : List D → List D → M (List D)
  | [], acc => fun st => if stays w st then .ok acc st else .bad
  | d :: ds, acc => fun st => if stays w st then (noErr (G d en) >>= fun en1 => noErr (T en1) >>= fun b => if b = true then noErr (E en1) >>= fun v => (if acc.length < sizeLine then compL en G T E w ds (acc ++ [v]) else bad) else compL en G T E w ds acc) st else .bad
noncomputable def fComp (I : En → M (List D × Watch)) (vs : List Nat) (G : D → En → M En) (T : En → M Bool) (E : En → M D) : En → M (List D) := fun en => I en >>= fun a => compL (wipeD en vs) G T E a.2 a.1 []
def tTrue : En → M Bool := fun _ => pure true
theorem tLc_of {X : Cx} {W : WX} {I : En → M (List D × Watch)} {vs : List Nat} {t : TG} {G : D → En → M En} {T : En → M Bool} {E : En → M D} {σ : SS} {H : Hp} {Q : VK} (hg : TgOk X.K vs t G)
    (h : tG X.K X.mg (rT X.K) W (fComp I vs G T E) σ H Q) : tLc (tG X.K X.mg (rIter X.K) W I) t (tG X.K X.mg rB W0 T) (tG X.K X.mg (rD X.K) W0 E) vs σ H Q := by
  obtain ⟨m, en, st, S, N, q⟩ := h
  refine seq_wp mono_T S N q fun m0 st0 a J H0 s0 S0 r0 N0 q0 => ?_
  obtain ⟨xs, w⟩ := a
  have r0 : ItOk X.K m0 H0 J xs w := r0
  have q0 : (compL (wipeD en vs) G T E w xs [] st0).Wp (PostR X.K (rT X.K) m0 H0 Q) (PostX X.K X.mg m0 H0 (WE W σ)) := q0
  intro P hP
  have NW : RelN X.K m0 H0 (wipeD en vs) (wipe σ vs) := relN_wipe N0 vs
  refine ⟨fun i n H' => n = xs.length - i ∧ i ≤ xs.length ∧ ∃ m' st' acc us, Step X.K m0 H0 m' H' ∧ Sim X.K m' st' H' ∧ P ∉ m' ∧ H' P = some (.lst us) ∧ RelL X.K m' H' acc us ∧
      (compL (wipeD en vs) G T E w (xs.drop i) acc st').Wp (PostR X.K (rT X.K) m0 H0 Q) (PostX X.K X.mg m0 H0 (WE W σ)),
    ⟨xs.length, by simp, Nat.zero_le _, m0, st0, [], [], Step.new hP, S0.new hP, S0.fresh hP, upd_same, rfl, by simpa using q0⟩, ?_⟩
  rintro i n H' ⟨rfl, hi, m', st', acc, us, s', S', hn, hp, rl, q'⟩
  by_cases hlt : i < xs.length
  · have hd : xs.drop i = xs[i] :: xs.drop (i + 1) := List.drop_eq_getElem_cons hlt
    rw [hd] at q'
    unfold compL at q'
    by_cases hst : stays w st'
    · rw [if_pos hst] at q'
      refine .inr ⟨r0.go m' st' H' i s' S' hst hlt, fun H2 => ∃ m2 st2 acc2 us2, Step X.K m0 H0 m2 H2 ∧ Sim X.K m2 st2 H2 ∧ P ∉ m2 ∧ H2 P = some (.lst us2) ∧ RelL X.K m2 H2 acc2 us2 ∧
        (compL (wipeD en vs) G T E w (xs.drop (i + 1)) acc2 st2).Wp (PostR X.K (rT X.K) m0 H0 Q) (PostX X.K X.mg m0 H0 (WE W σ)), fun H2 h2 => ⟨xs.length - (i + 1), by omega, rfl, hlt, h2⟩, fun x H2 y => ?_⟩
      obtain ⟨s2, S2, r2⟩ := r0.yld m' st' H' i xs[i] x H2 s' S' hst (by simp [hlt]) y
      have sA : Step X.K m0 H0 m' H2 := s'.trans s2
      have hp2 : H2 P = some (.lst us) := s2.keep _ _ hp hn
      have rl2 : RelL X.K m' H2 acc us := RelL.sub s2.sub rl
      refine hg m' (wipeD en vs) st' xs[i] x (wipe σ vs) H2 _ S2 (NW.sub sA.sub) r2 (wp_mono (wp_noErr.mp (wp_bind.mp q')) (fun en1 st1 q1 est σ1 N1 z1 => ?_) fun _ _ z => z)
      subst est
      have z1 : wipe σ1 vs = wipe σ vs := z1.trans (by
        have : ∀ ws : List Nat, wipe (wipe σ vs) ws = wipe (wipe σ vs) ws := fun _ => rfl
        exact wipe_wipe σ vs)
      refine ⟨z1, m', en1, st1, S2, N1, wp_mono (wp_noErr.mp (wp_bind.mp q1)) (fun b st2 q2 b' m2 H3 s3 S3 eb => ?_) fun _ _ z => z.elim⟩
      cases (eb : b = b')
      have hn3 : P ∉ m2 := fun hm => by
        obtain ⟨l, el, fl⟩ := s3.pre
        rw [el] at hm
        rcases List.mem_append.mp hm with h | h
        · exact hn h
        · rw [fl P h] at hp2; cases hp2
      have hp3 : H3 P = some (.lst us) := s3.keep _ _ hp2 hn
      have rl3 : RelL X.K m2 H3 acc us := RelL.sub s3.sub rl2
      cases b with
      | false => exact ⟨m2, st2, acc, us, sA.trans s3, S3, hn3, hp3, rl3, q2⟩
      | true =>
        refine ⟨m2, en1, st2, S3, N1.sub s3.sub, wp_mono (wp_noErr.mp (wp_bind.mp q2)) (fun d st3 q3 v m3 H4 s4 S4 rv => ?_) fun _ _ z => z.elim⟩
        have hn4 : P ∉ m3 := fun hm => by
          obtain ⟨l, el, fl⟩ := s4.pre
          rw [el] at hm
          rcases List.mem_append.mp hm with h | h
          · exact hn3 h
          · rw [fl P h] at hp3; cases hp3
        have hp4 : H4 P = some (.lst us) := s4.keep _ _ hp3 hn3
        have rl4 : RelL X.K m3 H4 acc us := RelL.sub s4.sub rl3
        by_cases hz : acc.length < sizeLine
        · rw [if_pos hz] at q3
          have sP : Step X.K m0 H0 m3 (upd H4 P (.lst (us ++ [v]))) := by
            have sB := (sA.trans s3).trans s4
            refine ⟨sB.pre, fun q o e hq => ?_, fun q e => ?_, fun q ws e => ?_⟩
            · rw [upd_ne (fun z => by rw [z] at e; rw [hP] at e; cases e)]
              exact sB.keep q o e hq
            · by_cases z : q = P
              · subst z; rw [upd_same]; exact fun z => nomatch z
              · rw [upd_ne z]; exact sB.dom q e
            · exact sqT_upd_lst hp4 (sB.tups q ws e)
          refine ⟨us, hp4, by rw [← RelL.length rl4]; exact hz, m3, st3, acc ++ [d], us ++ [v], sP, ?_, hn4, upd_same, ?_, q3⟩
          · exact S4.beside hn4 hp4
          · exact RelL.sub (sub_beside hp4) (rl4.append (.one rv))
        · rw [if_neg hz] at q3
          exact (q3 : False).elim
    · rw [if_neg hst] at q'
      exact (q' : False).elim
  · have e : i = xs.length := by omega
    subst e
    rw [List.drop_length] at q'
    unfold compL at q'
    by_cases hst : stays w st'
    · rw [if_pos hst] at q'
      exact .inl ⟨r0.stop m' st' H' _ s' S' hst (Nat.le_refl _), q' (.ref P) m' H' s' S' ⟨P, us, rfl, hP, hn, hp, rl⟩⟩
    · rw [if_neg hst] at q'
      exact (q' : False).elim
end Mir
end part_Mir5
section part_Mir6
set_option maxHeartbeats 1000000
/-! Mir6: comprehensions as expressions, calls of own defs, methods, dicts, targets. -/
namespace Mir
open PySem PySem.Spec PyProof.Rows L2

section
variable {X : Cx} {W : WX} {pos spos py : Pos} {elt tg iter : Expr} {ifs : List Expr} {scope : Scope} {own : List (Str × Nat)} {I : En → M (List D × Watch)} {t : TG} {G : D → En → M En} {T : En → M Bool} {E : En → M D}
abbrev EvTs (X : Cx) (ifs : List Expr) (T : En → M Bool) : Prop := PTs X ifs (tG X.K X.mg rB W0 T)
theorem ets_nil : EvTs X [] tTrue := ⟨fun pins s σ H Q I ⟨m, en, st, S, N, q⟩ => pts_nil.run pins s σ H Q I ((wp_pure.mp q) _ m H .refl S rfl)⟩
theorem ets_one {c : Expr} (h : EvT X W0 c T) : EvTs X [c] T := pts_one h
theorem el_comp (hN : X.N.Nodup) (hi : EvI X W tg iter I) (ok : BlkOk X.N X.env.scope scope own) (hg : TgOk X.K (own.map (·.2)) t G)
    (hpg : ∀ (s : Shared) (H : Hp) (C : Addr) (cl : List (Str × Addr)) (fp : List Addr), PG (X.blk s H scope (compEnvC scope cl C X.env) fp) tg t)
    (ht : ∀ (s : Shared) (H : Hp) (C : Addr) (cl : List (Str × Addr)) (fp : List Addr), EvTs (X.blk s H scope (compEnvC scope cl C X.env) fp) ifs T)
    (he : ∀ (s : Shared) (H : Hp) (C : Addr) (cl : List (Str × Addr)) (fp : List Addr), EvE (X.blk s H scope (compEnvC scope cl C X.env) fp) W0 elt E)
    (hc : X.calm = true := by rfl) (hs : ∀ x, foldedSetIterable iter X.env x = pure x := by intro _; rfl) : EvL X W (.ListComp elt [⟨tg, iter, ifs, 0⟩] scope pos) (fComp I (own.map (·.2)) G T E) :=
  (pe_lc hc hN hi ok hpg ht he hs).mirImp fun σ H Q h => tLc_of hg h
/-- name = [..] on one line -/
theorem es_setLc {i : Nat} {y : Str} (hN : X.N.Nodup) (hy : X.N[i]? = some y) (hyl : X.env.scope.names.lookup y = some .local) (hsw : swapsWith (.ListComp elt [⟨tg, iter, ifs, 0⟩] scope pos) (some (.Name y py)) spos.line X.env = pure true)
    (hi : EvI X W tg iter I) (ok : BlkOk X.N X.env.scope scope own) (hg : TgOk X.K (own.map (·.2)) t G)
    (hpg : ∀ (s : Shared) (H : Hp) (C : Addr) (cl : List (Str × Addr)) (fp : List Addr), PG (X.blk s H scope (compEnvC scope cl C X.env) fp) tg t)
    (ht : ∀ (s : Shared) (H : Hp) (C : Addr) (cl : List (Str × Addr)) (fp : List Addr), EvTs (X.blk s H scope (compEnvC scope cl C X.env) fp) ifs T)
    (he : ∀ (s : Shared) (H : Hp) (C : Addr) (cl : List (Str × Addr)) (fp : List Addr), EvE (X.blk s H scope (compEnvC scope cl C X.env) fp) W0 elt E)
    (hc : X.calm = true := by rfl) (hs : ∀ x, foldedSetIterable iter X.env x = pure x := by intro _; rfl) :
    EvS X W (.Assign [.Name y py] (.ListComp elt [⟨tg, iter, ifs, 0⟩] scope pos) spos) (sAsg (fNew (fComp I (own.map (·.2)) G T E)) (gtName i)) :=
  (ps_setLc hc hN hy hyl hsw hi ok hpg ht he hs).mirImp fun D σ H h => by
    have h1 := tAsg_of h
    show tLc _ _ _ _ _ σ H fun x H1 => gName i x σ H1 D.nx
    refine tLc_of (T := T) (E := E) hg ?_
    have h2 : tG X.K X.mg (rD X.K) W (fNew (fComp I (own.map (·.2)) G T E)) σ H (fun x H1 => gName i x σ H1 D.nx) := tG_mono h1 fun x H1 ⟨m, en, st, d, S, N, r, q⟩ => (wp_pure.mp q) _ m H1 .refl S (N.set r i)
    obtain ⟨m, en, st, S, N, q⟩ := h2
    refine ⟨m, en, st, S, N, wp_mono (wp_bind.mp q) (fun ds st1 q1 v m1 H1 s1 S1 r => ?_) fun _ _ z => z⟩
    obtain ⟨p, vs, rfl, h0, hn, hp, rl⟩ := r
    refine q1 (.ref p) (m1 ++ [p]) H1 (s1.take h0) (S1.take hn ⟨vs, hp, rl⟩) ⟨p, ?_, rfl⟩
    rw [← S1.len, List.getElem?_append_right (Nat.le_refl _)]
    simp
/-- name = [..] over more than one line: as any expression -/
theorem es_setL {e : Expr} {i : Nat} {y : Str} {F : En → M (List D)} (hg : PG X (.Name y py) (gName i)) (h : EvL X W e F) (hs : swapsWithSole [.Name y py] e pos.line X.env = pure false := by rfl) (hw : swappedStores [.Name y py] e X.env = pure none := by rfl)
    (h1 : (assignEach [.Name y py] X.env).map (·.2) = [assign (.Name y py) X.env] := by rfl) : EvS X W (.Assign [.Name y py] e pos) (sAsg (fNew F) (gtName i)) := es_asg (ev_new h) (eg_name hg) hs hw h1
end

/-! ### own defs called -/
def fCall (n : Nat) (dd : List D) (g : List D → M D) (G : En → M (List D)) : En → M D := fun en => G en >>= fun ds => if (ds ++ dd).length = n then g (ds ++ dd) else bad
section
variable {X : Cx} {W : WX} {p pos : Pos} {x : Str} {e : Expr} {es : List Expr} {k : Nat} {f : Addr} {fd : FuncData} {ps : List Str} {g : List D → M D} {G : En → M (List D)} {dd : List D} {dvs : List V} {ds : List Value}
theorem sp_of {m1 : List Addr} {st1 : Sto} {H1 : Hp} {σ : SS} {Q : VK} {as : List D} {vs : List V} (S1 : Sim X.K m1 st1 H1) (rl : RelL X.K m1 H1 as vs)
    (q : ((if as.length = ps.length then g as else bad) st1).Wp (PostR X.K (rD X.K) m1 H1 Q) (PostX X.K X.mg m1 H1 (WE W σ))) : spM X.K X.mg ps.length g vs H1 Q (WE W σ) := by
  split at q
  · rename_i hl
    exact ⟨m1, as, st1, S1, rl, hl, q⟩
  · exact (q : False).elim
theorem ev_call (F : Fn X.prog X.w X.K X.mg X.base k f fd ps g) (hr : Room k X.A) (hm : X.mg x = some (.ref f)) (hk : PySem.W.keepIn X.K (.ref f) = true) (hb : Binds X.K fd ps ds) (hd : Vals dvs ds) (hdd : ∀ m H, RelL X.K m H dd dvs) (tk : Takes X W) (ha : EvA X W (e :: es) G)
    (hg : Gl X x := by rfl) (hdb : (x == ("__debug__" : Str)) = false := by decide) (he : starEach (e :: es) X.env = (false, eval e X.env) :: starEach es X.env := by rfl) (hpl : (backTo pos (starEach es X.env)).any (·.1) = false := by rfl) :
    EvE X W (.Call (.Name x p) (e :: es) [] pos) (fCall ps.length dd g G) :=
  (pe_callSD F hr hg hm hk hb hd (fun σ => passAt tk σ) ha hdb he hpl).mirImp fun σ H Q ⟨m, en, st, S, N, q⟩ => seq_wp mono_D S N q fun m1 st1 as vs H1 s1 S1 rl N1 q1 => sp_of S1 (rl.append (hdd m1 H1)) q1
/-- f(e, .., k = v, ..) -/
def fCallK (n1 n2 n : Nat) (gV : List D → List D → List D) (g : List D → M D) (G1 G2 : En → M (List D)) : En → M D := fun en => G1 en >>= fun ds => G2 en >>= fun zs => if ds.length = n1 ∧ zs.length = n2 then (if (gV ds zs).length = n then g (gV ds zs) else bad) else bad
variable {n : Nat} {ks : List Str} {kws : List Keyword} {gU : List Value → List Value → List Value} {gV : List V → List V → List V} {gD : List D → List D → List D} {G2 : En → M (List D)}
theorem run_fnNS {pins : List (Addr × Obj)} {σ : SS} {H : Hp} {s : Shared} {Q : VK} {us ws : List Value} {vs zs : List V} {sp : Sp} {E : XK} (F : FnOk X.prog X.w X.K X.mg X.base (L2.CX X.prog X.w) k f fd ps sp) (hr : Room k X.A) (hb : KBn X.K fd ps n ks gU gV) (hx : PassesAt (L2.CX X.prog X.w) X σ E)
    (I : Inv X pins σ H s) (r : Vals vs us) (rz : Vals zs ws) (l1 : vs.length = n) (l2 : zs.length = ks.length) (h : sp (gV vs zs) H Q E) : wpAny (model X.prog X.w) X.A (call (.ref f) us (ks.zip ws)) (EP X pins σ Q) X.xe s := by
  have run := F.run X.A X.stack s H ⟨us, ks.zip ws⟩ (gU us ws) (gV vs zs) Q E hr I.env0 (hb.to s us ws I.kIn (r.length.symm.trans l1) (rz.length.symm.trans l2)) (hb.rel r rz) h
  refine wpAny_call (codeAny_mono run fun res s' hq => ?_)
  cases res with
  | error er => exact hx pins H s er s' I hq
  | ok fl => cases fl with
    | ret u => exact I.after hq
    | next => exact hq.elim
    | brk => exact hq.elim
    | cont => exact hq.elim
theorem ev_callK (F : Fn X.prog X.w X.K X.mg X.base k f fd ps g) (hr : Room k X.A) (hm : X.mg x = some (.ref f)) (hk : PySem.W.keepIn X.K (.ref f) = true) (hb : KBn X.K fd ps n ks gU gV)
    (hgD : ∀ m H ds vs zs ws, RelL X.K m H ds vs → RelL X.K m H zs ws → ds.length = n → zs.length = ks.length → RelL X.K m H (gD ds zs) (gV vs ws)) (tk : Takes X W) (ha : EvA X W (e :: es) G) (h2 : EvK X W kws G2)
    (hg : Gl X x := by rfl) (hall : (backToKw pos (keywordEach kws X.env)).all (·.1.isSome) = true := by rfl) (hks : (backToKw pos (keywordEach kws X.env)).filterMap (·.1) = ks := by rfl)
    (hdb : (x == ("__debug__" : Str)) = false := by decide) (he : starEach (e :: es) X.env = (false, eval e X.env) :: starEach es X.env := by rfl)
    (hpl : ((backTo pos (starEach (e :: es) X.env)).any (·.1) || (backToKw pos (keywordEach kws X.env)).any (·.1.isNone)) = false := by rfl) :
    EvE X W (.Call (.Name x p) (e :: es) kws pos) (fCallK n ks.length ps.length gD g G G2) := ⟨fun pins s σ H Q I h => by
  obtain ⟨m, en, st, S, N, q⟩ := h
  refine wpAny_Call_Name_kw (ld_glob I hg hm ?_ hdb)
  have h1 : tG X.K X.mg (rL X.K) W G σ H fun vs H1 => tG X.K X.mg (rL X.K) W G2 σ H1 fun zs H2 => vs.length = n ∧ zs.length = ks.length ∧ spM X.K X.mg ps.length g (gV vs zs) H2 Q (WE W σ) :=
    seq_wp mono_D S N q fun m1 st1 as vs H1 s1 S1 rl N1 q1 => seq_wp mono_D S1 N1 q1 fun m2 st2 zs ws H2 s2 S2 rl2 N2 q2 => by
      split at q2
      · rename_i hl
        have rl' := RelL.sub s2.sub rl
        exact ⟨(RelL.length rl').symm.trans hl.1, (RelL.length rl2).symm.trans hl.2, sp_of S2 (hgD m2 H2 _ _ _ _ rl' rl2 hl.1 hl.2) q2⟩
      · exact (q2 : False).elim
  refine PySem.W.callWith_KW (h₀ := X.base) I.ok.mod.kin hk hall (thn (ha.run pos pins s σ H _ I h1) fun us s1 ⟨vs, H1, I1, r, q⟩ => ?_) hpl he
  refine thn (h2.run pos pins s1 σ H1 _ I1 q) fun ws s2 ⟨zs, H2, I2, rz, l1, l2, q2⟩ => ⟨I2.kIn, ?_⟩
  rw [hks]
  exact run_fnNS F hr hb (passAt tk σ) I2 r rz l1 l2 q2⟩
/-- f(k = v, ..) -/
theorem ev_callK0 (F : Fn X.prog X.w X.K X.mg X.base k f fd ps g) (hr : Room k X.A) (hm : X.mg x = some (.ref f)) (hk : PySem.W.keepIn X.K (.ref f) = true) (hb : KBn X.K fd ps 0 ks gU gV)
    (hgD : ∀ m H ds vs zs ws, RelL X.K m H ds vs → RelL X.K m H zs ws → ds.length = 0 → zs.length = ks.length → RelL X.K m H (gD ds zs) (gV vs ws)) (tk : Takes X W) (h2 : EvK X W kws G2)
    (hg : Gl X x := by rfl) (hall : (backToKw pos (keywordEach kws X.env)).all (·.1.isSome) = true := by rfl) (hks : (backToKw pos (keywordEach kws X.env)).filterMap (·.1) = ks := by rfl)
    (hdb : (x == ("__debug__" : Str)) = false := by decide)
    (hpl : ((backTo pos (starEach [] X.env)).any (·.1) || (backToKw pos (keywordEach kws X.env)).any (·.1.isNone)) = false := by rfl) :
    EvE X W (.Call (.Name x p) [] kws pos) (fCallK 0 ks.length ps.length gD g aNil G2) := ⟨fun pins s σ H Q I h => by
  obtain ⟨m, en, st, S, N, q⟩ := h
  refine wpAny_Call_Name_kw (ld_glob I hg hm ?_ hdb)
  have h1 : tG X.K X.mg (rL X.K) W G2 σ H fun zs H2 => zs.length = ks.length ∧ spM X.K X.mg ps.length g (gV [] zs) H2 Q (WE W σ) :=
    seq_wp mono_D S N (show ((G2 en >>= fun zs => if (([] : List D).length = 0 ∧ zs.length = ks.length) then (if (gD [] zs).length = ps.length then g (gD [] zs) else bad) else bad) st).Wp _ _ from q) fun m2 st2 zs ws H2 s2 S2 rl2 N2 q2 => by
      split at q2
      · rename_i hl
        exact ⟨(RelL.length rl2).symm.trans hl.2, sp_of S2 (hgD m2 H2 [] [] _ _ rfl rl2 hl.1 hl.2) q2⟩
      · exact (q2 : False).elim
  refine PySem.W.callWith_KW0 (h₀ := X.base) I.ok.mod.kin hk hall (thn (h2.run pos pins s σ H _ I h1) fun ws s2 ⟨zs, H2, I2, rz, l2, q2⟩ => ⟨I2.kIn, ?_⟩) hpl
  rw [hks]
  exact run_fnNS (us := []) (vs := []) F hr hb (passAt tk σ) I2 .nil rz rfl l2 q2⟩
end

/-! ### methods of built-ins -/
def isTy (T : String) (d : D) : M Unit := fun st => if (T = "list" ∨ T = "dict" ∨ T = "str") ∧ tyName st d = some T then .ok () st else .bad
def fBm0 (T : String) (g : D → M D) (Fo : En → M D) : En → M D := fun en => Fo en >>= fun x => isTy T x >>= fun _ => g x
def fBm (T : String) (g : D → List D → M D) (Fo : En → M D) (Fa : En → M (List D)) : En → M D := fun en => Fo en >>= fun x => isTy T x >>= fun _ => Fa en >>= fun ds => g x ds
def MethM (K : PySem.W.Frag) (r : V → List V → Hp → VK → Prop) (g : D → List D → M D) : Prop := ∀ m st H dx ds x vs Q, Sim K m st H → Rel K m H dx x → RelL K m H ds vs → (g dx ds st).Wp (PostR K (rD K) m H Q) (fun _ _ => False) → r x vs H Q
theorem wp_isTy {T : String} {d : D} {st : Sto} {Q : Unit → Sto → Prop} {E : Exn → Sto → Prop} : (isTy T d st).Wp Q E ↔ ((T = "list" ∨ T = "dict" ∨ T = "str") ∧ tyName st d = some T) ∧ Q () st := by
  unfold isTy
  split
  · rename_i h; exact ⟨fun q => ⟨h, q⟩, fun q => q.2⟩
  · rename_i h; exact ⟨fun q => q.elim, fun q => h q.1⟩
section
variable {K : PySem.W.Frag} {m : List Addr} {H : Hp} {st : Sto}
theorem tyV_of {T : String} {d : D} {v : V} (S : Sim K m st H) (r : Rel K m H d v) (h : (T = "list" ∨ T = "dict" ∨ T = "str") ∧ tyName st d = some T) : tyV K T v H := by
  obtain ⟨hT, h⟩ := h
  cases d with
  | non => cases h; simp at hT
  | bl b => cases h; simp at hT
  | int b => cases h; simp at hT
  | str b => cases h; cases (r : _ = _); exact rfl
  | tup xs => cases h; simp at hT
  | ref i =>
    obtain ⟨p, hp, rfl⟩ := r
    have h : obName st[i]? = some T := h
    cases e : st[i]? with
    | none => rw [e] at h; cases h
    | some o =>
      rw [e] at h
      have z := S.ob _ _ _ hp e
      cases o with
      | lst xs => cases h; obtain ⟨vs, e, _⟩ := z; exact .inl ⟨rfl, vs, SqL.of e⟩
      | ro xs => cases h; obtain ⟨o, vs, e, _⟩ := z; exact .inl ⟨rfl, vs, .inl (.inr ⟨o, e⟩)⟩
      | dct xs => cases h; obtain ⟨vs, e, _⟩ := z; exact .inr (.inr (.inl ⟨rfl, .inl ⟨vs, e⟩⟩))
      | dtt xs => cases h; obtain ⟨vs, e, _⟩ := z; exact .inr (.inr (.inl ⟨rfl, .inr ⟨vs, e⟩⟩))
end
section
variable {X : Cx} {W : WX} {o e : Expr} {es : List Expr} {name : Str} {apos cpos : Pos} {T id : String} {r : V → List V → Hp → VK → Prop} {Fo : En → M D} {Fa : En → M (List D)}
theorem ev_bm {g : D → List D → M D} (pa : PlainAttrs T) (slot : Slot T name id) (hty : typeOf (.builtin id) = pure (.type "method_descriptor")) (hm : MtR X id r) (hg : MethM X.K r g) (hc : ∀ x ds, Calm (g x ds)) (ho : EvE X W o Fo) (ha : EvA X W (e :: es) Fa)
    (hbase : attributeBase o name X.env (eval o X.env) = eval o X.env := by rfl)
    (hfew : ((backTo cpos (starEach (e :: es) X.env)).all (fun x => !x.1) && (backToKw cpos (keywordEach [] X.env)).all (fun x => x.1.isSome)
      && decide ((e :: es).length + ([] : List Keyword).length + (if ([] : List Keyword).isEmpty then 0 else 1) < 30)) = true := by rfl)
    (hline : (apos.endLine == cpos.line) = true := by rfl) (hs : starEach (e :: es) X.env = (false, eval e X.env) :: starEach es X.env := by rfl) (hplain : (backTo cpos (starEach es X.env)).any (·.1) = false := by rfl) :
    EvE X W (.Call (.Attribute o name apos) (e :: es) [] cpos) (fBm T g Fo Fa) :=
  (pe_bm pa slot hty hm ho ha hbase hfew hline hs hplain).mirImp fun σ H Q ⟨m, en, st, S, N, q⟩ => seq_wp mono_D S N q fun m1 st1 dx x H1 s1 S1 rx N1 q1 => by
    obtain ⟨hT, q2⟩ := wp_isTy.mp (wp_bind.mp q1)
    refine ⟨tyV_of S1 rx hT, seq_wp mono_D S1 N1 q2 fun m2 st2 ds vs H2 s2 S2 rl N2 q3 => ?_⟩
    exact hg m2 st2 H2 dx ds x vs Q S2 (Rel.sub s2.sub rx) rl (wp_calm (hc dx ds) q3)
theorem ev_bm0 {g : D → M D} (pa : PlainAttrs T) (slot : Slot T name id) (hty : typeOf (.builtin id) = pure (.type "method_descriptor")) (hm : MtR X id r) (hg : MethM X.K r (fun x _ => g x)) (hc : ∀ x, Calm (g x)) (ho : EvE X W o Fo)
    (hbase : attributeBase o name X.env (eval o X.env) = eval o X.env := by rfl) (hline : (apos.endLine == cpos.line) = true := by rfl) : EvE X W (.Call (.Attribute o name apos) [] [] cpos) (fBm0 T g Fo) :=
  (pe_bm0 pa slot hty hm ho hbase hline).mirImp fun σ H Q ⟨m, en, st, S, N, q⟩ => seq_wp mono_D S N q fun m1 st1 dx x H1 s1 S1 rx N1 q1 => by
    obtain ⟨hT, q2⟩ := wp_isTy.mp (wp_bind.mp q1)
    exact ⟨tyV_of S1 rx hT, hg m1 st1 H1 dx [] x [] Q S1 rx rfl (wp_calm (hc dx) q2)⟩
end
/-- a list of the store -/
def rdLst (i : Nat) : M (List D) := fun st => match st[i]? with
  | some (.lst xs) => .ok xs st
  | _ => .bad
def wrLst (i : Nat) (xs : List D) : M Unit := fun st => .ok () (st.set i (.lst xs))
theorem wp_rdLst {i : Nat} {st : Sto} {Q : List D → Sto → Prop} {E : Exn → Sto → Prop} : (rdLst i st).Wp Q E ↔ ∃ xs, st[i]? = some (.lst xs) ∧ Q xs st := by
  unfold rdLst
  cases e : st[i]? with
  | none => exact ⟨fun q => q.elim, fun ⟨_, h, _⟩ => nomatch h⟩
  | some o =>
    cases o with
    | lst xs => exact ⟨fun q => ⟨xs, rfl, q⟩, fun ⟨_, h, q⟩ => by cases h; exact q⟩
    | ro xs => exact ⟨fun q => q.elim, fun ⟨_, h, _⟩ => nomatch h⟩
    | dct xs => exact ⟨fun q => q.elim, fun ⟨_, h, _⟩ => nomatch h⟩
    | dtt xs => exact ⟨fun q => q.elim, fun ⟨_, h, _⟩ => nomatch h⟩
theorem calm_rdLst {i : Nat} : Calm (rdLst i) := fun st x st' h => by unfold rdLst at h; split at h <;> cases h
theorem calm_wrLst {i : Nat} {xs : List D} : Calm (wrLst i xs) := fun st x st' h => nomatch h
section
variable {K : PySem.W.Frag} {m : List Addr} {H : Hp} {st : Sto}
theorem post_wr {i : Nat} {p : Addr} {xs ys : List D} {ws : List V} {d : D} {v : V} {Q : VK} (S : Sim K m st H) (hp : m[i]? = some p) (r : RelL K m H ys ws) (rd : Rel K m H d v) (h : PostR K (rD K) m H Q d (st.set i (.lst ys))) : Q v (upd H p (.lst ws)) := by
  have s := Step.write (o := .lst ws) S (List.mem_of_getElem? hp)
  exact h v m _ s (S.write hp ⟨ws, upd_same, RelL.sub s.sub r⟩) (Rel.sub s.sub rd)
end
def gAppend1 (i : Nat) (d : D) : M D := rdLst i >>= fun xs => if xs.length < sizeLine then wrLst i (xs ++ [d]) >>= fun _ => pure .non else bad
def gAppend : D → List D → M D
  | .ref i, [d] => gAppend1 i d
  | _, _ => bad
section
variable {X : Cx} {K : PySem.W.Frag} {W : WX} {o e : Expr} {apos cpos pos : Pos} {Fo : En → M D} {Fa : En → M (List D)}
theorem methm_append : MethM K rAppend gAppend := fun m st H dx ds x vs Q S rx rl h => by
  unfold gAppend at h
  split at h
  · rename_i i d
    obtain ⟨p, hp, rfl⟩ := rx
    obtain ⟨v, _, rfl, rv, rfl⟩ := rl
    unfold gAppend1 at h
    obtain ⟨xs, e, q⟩ := wp_rdLst.mp (wp_bind.mp h)
    obtain ⟨us, hu, ru⟩ := S.lstAt hp e
    split at q
    · rename_i hz
      exact ⟨p, us, v, rfl, rfl, hu, by rw [← RelL.length ru]; exact hz, post_wr (d := .non) (xs := xs) S hp (ru.append (.one rv)) rfl q⟩
    · exact (q : False).elim
  · exact (h : False).elim
theorem calm_append (x : D) (ds : List D) : Calm (gAppend x ds) := by
  unfold gAppend
  split
  · exact calm_bind calm_rdLst fun xs => calm_ite (calm_bind calm_wrLst fun _ => calm_pure) calm_bad
  · exact calm_bad
theorem ev_append (ho : EvE X W o Fo) (ha : EvA X W [e] Fa) (hbase : attributeBase o "append" X.env (eval o X.env) = eval o X.env := by rfl)
    (hfew : ((backTo cpos (starEach [e] X.env)).all (fun x => !x.1) && (backToKw cpos (keywordEach [] X.env)).all (fun x => x.1.isSome)
      && decide ([e].length + ([] : List Keyword).length + (if ([] : List Keyword).isEmpty then 0 else 1) < 30)) = true := by rfl)
    (hline : (apos.endLine == cpos.line) = true := by rfl) (hs : starEach [e] X.env = (false, eval e X.env) :: starEach [] X.env := by rfl) (hplain : (backTo cpos (starEach [] X.env)).any (·.1) = false := by rfl) :
    EvE X W (.Call (.Attribute o "append" apos) [e] [] cpos) (fBm "list" gAppend Fo Fa) :=
  ev_bm PySem.F.plainAttrs_list PySem.F.slot_list_append PySem.F.type_list_append mt_append methm_append calm_append ho ha hbase hfew hline hs hplain

/-! ### dicts -/
def putD (kvs : List (Key × D)) (k : Key) (v : D) : List (Key × D) :=
  if (kvs.any fun kv => decide (kv.1 = k)) = true then kvs.map (fun kv => if kv.1 = k then (kv.1, v) else kv) else kvs ++ [(k, v)]
theorem RelKV.append {κ : Type} {m : List Addr} {H : Hp} : ∀ {ds es : List (κ × D)} {vs ws : List (κ × V)}, RelKV K m H ds vs → RelKV K m H es ws → RelKV K m H (ds ++ es) (vs ++ ws)
  | [], _, _, _, h, g => by cases h; exact g
  | d :: ds, _, _, _, h, g => by
    obtain ⟨u, r, rfl, h1, h2⟩ := h
    exact ⟨u, _, rfl, h1, RelKV.append h2 g⟩
theorem putD_rel {m : List Addr} {H : Hp} {k : Key} {d : D} {v : V} (rd : Rel K m H d v) {kvs : List (Key × D)} {vs : List (Key × V)} (r : RelKV K m H kvs vs) : RelKV K m H (putD kvs k d) (putK vs k v) := by
  have ha : ∀ {kvs : List (Key × D)} {vs : List (Key × V)}, RelKV K m H kvs vs → (kvs.any fun kv => decide (kv.1 = k)) = (vs.any fun kv => decide (kv.1 = k)) := fun {kvs} => by
    induction kvs with
    | nil => intro vs r; cases (r : _ = _); rfl
    | cons a kvs ih =>
      intro vs r
      obtain ⟨w, ws, rfl, r1, r2⟩ := r
      simp only [List.any_cons, ih r2]
  have hm : ∀ {kvs : List (Key × D)} {vs : List (Key × V)}, RelKV K m H kvs vs → RelKV K m H (kvs.map (fun kv => if kv.1 = k then (kv.1, d) else kv)) (vs.map (fun kv => if kv.1 = k then (kv.1, v) else kv)) := fun {kvs} => by
    induction kvs with
    | nil => intro vs r; cases (r : _ = _); exact rfl
    | cons a kvs ih =>
      intro vs r
      obtain ⟨w, ws, rfl, r1, r2⟩ := r
      by_cases e : a.1 = k
      · simp only [List.map_cons, if_pos e]
        exact ⟨v, _, rfl, rd, ih r2⟩
      · simp only [List.map_cons, if_neg e]
        exact ⟨w, _, rfl, r1, ih r2⟩
  unfold putD putK
  rw [ha r]
  split
  · exact hm r
  · exact r.append ⟨v, [], rfl, rd, rfl⟩
def rdDct (i : Nat) : M (List (Key × D)) := fun st => match st[i]? with
  | some (.dct kvs) => .ok kvs st
  | _ => .bad
theorem wp_rdDct {i : Nat} {st : Sto} {Q : List (Key × D) → Sto → Prop} {E : Exn → Sto → Prop} : (rdDct i st).Wp Q E ↔ ∃ xs, st[i]? = some (.dct xs) ∧ Q xs st := by
  unfold rdDct
  cases e : st[i]? with
  | none => exact ⟨fun q => q.elim, fun ⟨_, h, _⟩ => nomatch h⟩
  | some o =>
    cases o with
    | dct xs => exact ⟨fun q => ⟨xs, rfl, q⟩, fun ⟨_, h, q⟩ => by cases h; exact q⟩
    | ro xs => exact ⟨fun q => q.elim, fun ⟨_, h, _⟩ => nomatch h⟩
    | lst xs => exact ⟨fun q => q.elim, fun ⟨_, h, _⟩ => nomatch h⟩
    | dtt xs => exact ⟨fun q => q.elim, fun ⟨_, h, _⟩ => nomatch h⟩
theorem calm_rdDct {i : Nat} : Calm (rdDct i) := fun st x st' h => by unfold rdDct at h; split at h <;> cases h
def wrOb (i : Nat) (o : Ob) : M Unit := fun st => .ok () (st.set i o)
theorem ev_dict0 : EvE X W (.Dict [] [] pos) (fun _ => alloc (.dct [])) := pe_dnewK.mirImp fun σ H Q ⟨m, en, st, S, N, q⟩ p hp => by
  have q : PostR X.K (rD X.K) m H Q (.ref st.length) (st ++ [.dct []]) := q
  refine q _ (m ++ [p]) _ ((Step.new hp).take hp) ((S.new hp).take (S.fresh hp) ⟨[], upd_same, rfl⟩) ⟨p, ?_, rfl⟩
  rw [← S.len, List.getElem?_append_right (Nat.le_refl _)]
  simp
/-- the pairs of a display -/
def dNil : En → M (List (D × D)) := fun _ => pure []
def dCons (a b : En → M D) (r : En → M (List (D × D))) : En → M (List (D × D)) := fun en => a en >>= fun x => b en >>= fun y => r en >>= fun ps => pure ((x, y) :: ps)
def keysOf : List (D × D) → Option (List (Key × D))
  | [] => some []
  | (a, b) :: r => match keyD a, keysOf r with
    | some k, some ks => some ((k, b) :: ks)
    | _, _ => none
def mergeD (kvs more : List (Key × D)) : List (Key × D) := more.foldl (fun acc kv => putD acc kv.1 kv.2) kvs
def gDisp : Option (List (Key × D)) → M D
  | some kvs => if kvs.length ≤ 15 then alloc (.dct (mergeD [] kvs)) else bad
  | none => bad
def fDisp (F : En → M (List (D × D))) : En → M D := fun en => F en >>= fun ps => gDisp (keysOf ps)
def RelP (K : PySem.W.Frag) (m : List Addr) (H : Hp) : List (D × D) → List (V × V) → Prop
  | [], vs => vs = []
  | d :: ds, vs => ∃ v r, vs = v :: r ∧ Rel K m H d.1 v.1 ∧ Rel K m H d.2 v.2 ∧ RelP K m H ds r
theorem RelP.sub {m m' : List Addr} {H H' : Hp} (s : Sub K m H m' H') : ∀ {ds : List (D × D)} {vs : List (V × V)}, RelP K m H ds vs → RelP K m' H' ds vs
  | [], _, h => h
  | d :: ds, _, h => by
    obtain ⟨v, r, e, h1, h2, h3⟩ := h
    exact ⟨v, r, e, h1.sub s, h2.sub s, RelP.sub s h3⟩
def rPs (K : PySem.W.Frag) : RR (List (D × D)) (List (V × V)) := fun _ m H a b => RelP K m H a b
def EvPs (X : Cx) (W : WX) (pos : Pos) (ks : List (Option Expr)) (vs : List Expr) (trs : List (TE × TE)) (F : En → M (List (D × D))) : Prop := PPs X pos ks vs trs ∧ ∀ σ H Q, tG X.K X.mg (rPs X.K) W F σ H Q → tPairs trs σ H Q
theorem eps_nil : EvPs X W pos [] [] [] dNil := ⟨pps_nil, fun σ H Q ⟨m, en, st, S, N, q⟩ => (wp_pure.mp q) _ m H .refl S rfl⟩
theorem mono_Ps : RMono K (rPs K) := fun _ _ _ _ _ _ _ _ _ h => h
theorem eps_cons {k v : Expr} {ks : List (Option Expr)} {vs : List Expr} {trs : List (TE × TE)} {F G : En → M D} {R : En → M (List (D × D))} (hk : EvE X W k F) (hv : EvE X W v G) (hr : EvPs X W pos ks vs trs R) :
    EvPs X W pos (some k :: ks) (v :: vs) ((tG X.K X.mg (rD X.K) W F, tG X.K X.mg (rD X.K) W G) :: trs) (dCons F G R) := ⟨pps_cons hk hv hr.1, fun σ H Q ⟨m, en, st, S, N, q⟩ => by
  refine seq_wp mono_Ps S N q fun m1 st1 a x H1 s1 S1 ra N1 q1 => ?_
  refine seq_wp mono_Ps S1 N1 q1 fun m2 st2 b y H2 s2 S2 rb N2 q2 => ?_
  refine hr.2 σ H2 _ (seq_wp mono_Ps S2 N2 q2 fun m3 st3 ps ws H3 s3 S3 rp N3 q3 => ?_)
  exact (wp_pure.mp q3) _ m3 H3 .refl S3 ⟨(x, y), ws, rfl, Rel.sub (s2.trans s3).sub ra, Rel.sub s3.sub rb, rp⟩⟩
theorem keysOf_rel {m : List Addr} {H : Hp} : ∀ {ps : List (D × D)} {ws : List (V × V)} {kvs : List (Key × D)}, RelP K m H ps ws → keysOf ps = some kvs → ∃ vs : List (Key × V), ws = vs.map (fun kv => (kV kv.1, kv.2)) ∧ RelKV K m H kvs vs
  | [], _, _, r, h => by cases h; cases (r : _ = _); exact ⟨[], rfl, rfl⟩
  | (a, b) :: ps, _, kvs, r, h => by
    obtain ⟨v, ws, rfl, r1, r2, r3⟩ := r
    unfold keysOf at h
    split at h
    · rename_i k ks h1 h2
      cases h
      obtain ⟨vs, rfl, rk⟩ := keysOf_rel r3 h2
      refine ⟨(k, v.2) :: vs, ?_, v.2, vs, rfl, r2, rk⟩
      rw [List.map_cons, ← keyD_rel h1 r1]
    · cases h
theorem mergeD_rel {m : List Addr} {H : Hp} : ∀ {more : List (Key × D)} {ms : List (Key × V)} {kvs : List (Key × D)} {vs : List (Key × V)}, RelKV K m H more ms → RelKV K m H kvs vs → RelKV K m H (mergeD kvs more) (mergeK vs ms)
  | [], _, _, _, r, q => by cases (r : _ = _); exact q
  | d :: more, _, _, _, r, q => by
    obtain ⟨v, ms, rfl, r1, r2⟩ := r
    show RelKV K m H (mergeD (putD _ d.1 d.2) more) (mergeK (putK _ d.1 v) ms)
    exact mergeD_rel r2 (putD_rel r1 q)
theorem ev_disp {ks : List (Option Expr)} {vs : List Expr} {trs : List (TE × TE)} {F : En → M (List (D × D))} (h : EvPs X W pos ks vs trs F) (hall : ks.all (·.isSome) = true) (hl : ks.length = vs.length) (h0 : ks ≠ []) (h15 : (decide (ks.length ≤ 15)) = true) : EvE X W (.Dict ks vs pos) (fDisp F) := by
  refine (pe_disp h.1 hall hl h0 (by simpa using h15)).mirImp fun σ H Q ⟨m, en, st, S, N, q⟩ p hp => ?_
  have s0 := Step.new (K := X.K) (m := m) (o := .dK []) hp
  refine h.2 σ _ _ ⟨m, en, st, S.new hp, N.sub s0.sub, wp_mono (wp_bind.mp q) (fun ps st1 q1 ws m1 H1 s1 S1 rp => ?_) fun x st1 q1 => PostX.step s0 q1⟩
  have hn : p ∉ m := S.fresh hp
  have e1 : H1 p = some (.dK []) := s1.keep p _ upd_same hn
  have hn1 : p ∉ m1 := fun hm => by
    obtain ⟨l, el, fl⟩ := s1.pre
    rw [el] at hm
    rcases List.mem_append.mp hm with z | z
    · exact hn z
    · have := fl p z
      rw [upd_same] at this; cases this
  refine ⟨e1, ?_⟩
  cases hk : keysOf ps with
  | none => rw [hk] at q1; exact (q1 : False).elim
  | some kvs =>
    rw [hk] at q1
    unfold gDisp at q1
    by_cases hz : kvs.length ≤ 15
    · simp only [if_pos hz] at q1
      obtain ⟨vs2, rfl, rk⟩ := keysOf_rel rp hk
      refine ⟨vs2, rfl, by rw [← RelKV.length rk]; exact hz, ?_⟩
      have sB : Sub X.K m1 H1 m1 (upd H1 p (.dK (mergeK [] vs2))) := ⟨fun h => h, fun c ws hc => by
        rcases hc with (hc | ⟨ob, hc⟩) | hc
        · exact .inl (.inl (by rw [upd_ne (fun z => by rw [z, e1] at hc; cases hc)]; exact hc))
        · exact .inl (.inr ⟨ob, by rw [upd_ne (fun z => by rw [z, e1] at hc; cases hc)]; exact hc⟩)
        · exact .inr hc⟩
      have SB : Sim X.K m1 st1 (upd H1 p (.dK (mergeK [] vs2))) := ⟨S1.len, S1.nd, fun i c ob h1 h2 => (S1.ob i c ob h1 h2).sub sB (upd_ne (fun z => hn1 (z ▸ List.mem_of_getElem? h1)))⟩
      have sA : Step X.K m H (m1 ++ [p]) (upd H1 p (.dK (mergeK [] vs2))) := by
        have z := s0.trans s1
        refine ⟨(z.take hp).pre, fun c ob e hc => ?_, fun c e => ?_, fun c ws e => sB.tups c ws (z.tups c ws e)⟩
        · rw [upd_ne (fun y => by rw [y, hp] at e; cases e)]
          exact z.keep c ob e hc
        · by_cases y : c = p
          · subst y; rw [upd_same]; exact fun z => nomatch z
          · rw [upd_ne y]; exact z.dom c e
      have q1 : PostR X.K (rD X.K) m H Q (.ref st1.length) (st1 ++ [.dct (mergeD [] kvs)]) := q1
      refine q1 (.ref p) (m1 ++ [p]) _ sA (SB.take hn1 ⟨_, upd_same, RelKV.sub sB (mergeD_rel rk rfl)⟩) ⟨p, ?_, rfl⟩
      rw [← S1.len, List.getElem?_append_right (Nat.le_refl _)]
      simp
    · simp only [if_neg hz] at q1
      exact (q1 : False).elim
end
end Mir
end part_Mir6
section part_MirX
set_option maxHeartbeats 1000000
/-! MirX: an error class of the text: its __init__ hands a text to super().__init__ and stores its one argument. -/
namespace Mir
open PySem PySem.W PySem.Calls PyProof.Rows PySem.HandSPX

structure Pp where
  (a1 a2 b1 b2 b3 b4 b5 c1 c2 c3 c4 : Pos)
def xArgs (fn : Str) (p : Pp) : Arguments := { posonlyargs := [], args := [{ arg := "self", annotation := none, pos := p.a1 }, { arg := fn, annotation := none, pos := p.a2 }], vararg := none, kwonlyargs := [], kw_defaults := [], kwarg := none, defaults := [] }
def xBody (fn txt : Str) (p : Pp) : List Stmt :=
  [.Expr (.Call (.Attribute (.Call (.Name "super" p.b1) [] [] p.b2) "__init__" p.b3) [.Constant (.str txt) 0 p.b4] [] p.b5) p.b5,
   .Assign [.Attribute (.Name "self" p.c1) fn p.c2] (.Name fn p.c3) p.c4]
def xScope (fn : Str) : Scope := { kind := .function, names := [(PySem.Str.ofString "self", .local), (fn, .local), (PySem.Str.ofString "__class__", .free), (PySem.Str.ofString "super", .globalImplicit)], isGenerator := false, isCoroutine := false, more := [] }

/-- what the written part says of the class nm, at C, whose __init__ stands at fI -/
structure ExT (P : Program) (K : Frag) (mg : Str → Option Value) (nm fn txt qi : Str) (C fI : Addr) : Prop where
  gC : mg nm = some (.ref C)
  cls : ∃ nm q N bs bm sn sub ab col dd k0 k1 k2 k3 k5, K.lookup C = some (excClassObj nm q C N bs bm true sn sub ab col dd k0 k1 k2 k3 k5 "ValueError.__new__") ∧ refsVE bm = true
  sa : findIn K (.ref C) "__setattr__" = some (some (.builtin "object.__setattr__"))
  ga : findIn K (.ref C) "__getattribute__" = some (some (.builtin "BaseException.__getattribute__"))
  gg : findIn K (.ref C) "__getattr__" = some none
  noN : findIn K (.ref C) fn = some none
  iC : findIn K (.ref C) "__init__" = some (some (.ref fI))
  tC : typeIn K (.ref fI) = some (.type "function")
  kC : keepIn K (.ref C) = true
  exC : subIn K (.ref C) (.type "BaseException") = some true
  tyC : typeIn K (.ref C) = some (.type "type")
  hdC : hasDictIn K C = true
  sup : ks_superIn K C C "__init__" = some (some (.builtin "ValueError.__init__"))
  subV : subIn K (.ref C) (.type "ValueError") = some true
  own : mroIn K C (.ref C) = some true
  s0 : mg "super" = none
  ha : findIn K (.ref C) "__class__" = some (some (.builtin "object.__class__"))
  hn : specialIn K (.builtin "object.__class__") "__get__" = some (some (.builtin "getset_descriptor.__get__"))
  ht : takesIn K (.builtin "object.__class__") = some true
  hm : mroIn K C (.type "object") = some true
  opq : nsIn K cStatics "thirdparty.any" = some none
  htop : (P.main.scope.names.lookup ("super" : Str)).isSome = false
  fn_ : ∃ (oc : Value) (od : Option Addr) (doc pm : Value) (an : Option Addr) (ct : Value) (osl : Array (Option Value)) (cc cda : Addr) (p : Pp),
    K.lookup fI = some ⟨oc, od, .func (ksFn "__init__" qi (xArgs fn p) (xBody fn txt p) (xScope fn) .none .none doc pm an (.ref cda) ct cc), osl⟩ ∧ codeIn K (.ref cda) qi = true ∧ (p.b3.endLine == p.b5.line) = true ∧
    (∃ c d vs l file tf, K.lookup cda = some ⟨c, d, .fields vs, l⟩ ∧ vs[2]? = some (.str file tf) ∧ ((P.main.file : Str) == file) = true) ∧
    ∃ c d l, K.lookup cc = some ⟨c, d, .cell (some (.ref C)), l⟩
  fnOk : fn = "at" ∨ fn = "value"

/-- what __init__ leaves of a new error at x -/
structure XEnd (h h' : Heap) (x C dx t1 : Addr) (fn : Str) (v : Value) : Prop where
  keep : ∀ b o, b ≠ x → h.get? b = some o → h'.get? b = some o
  obj : h'.get? x = some { cls := .ref C, dict := some dx, data := .fields #[.ref t1, .none, .none, .none, .bool false, .none] }
  dbig : h.objs.size ≤ dx
  dne : dx ≠ x
  ns : h'.Ns1 dx (fun y => if y = fn then some v else none)
theorem sz1 (v : Value) : [v].length ≤ sizeLine := by
  rw [sizeLine_eq]
  show 1 ≤ 16777216
  omega
theorem in_but {K : Frag} {h h' : Heap} {x : Addr} (X : K.In h) (hx : K.lookup x = none) (k : ∀ b o, b ≠ x → h.get? b = some o → h'.get? b = some o) : K.In h' := fun a o e =>
  k a o (fun z => by rw [z, hx] at e; cases e) (X a o e)
section
variable {prog : Program} {w : World} {A : Around} {E : Value → Shared → Prop} {R : Result → Shared → Prop} {s : Shared} {K : Frag} {mg : Str → Option Value} {nm fn txt qi : Str} {C fI : Addr}
theorem bound_call {u e t0 : Addr} {rest : List Value} {Q : Value → Shared → Prop} {h : Heap} {g : Array GenState} {d : Drawn} {t : Nat} {os : OsState}
    {nm q : Str} {N : Addr} {bs bm : List Value} {hdct : Bool} {sn : List Str} {sub : List Value} {ab : Bool} {col : Option Bool} {dd : Option Addr} {k0 k1 k2 k3 k5 : Option Value}
    (hC : h.get? C = some (excClassObj nm q C N bs bm hdct sn sub ab col dd k0 k1 k2 k3 k5 "ValueError.__new__")) (he : h.get? e = some (excO C t0)) (hu : h.get? u = some (kxs_mw "ValueError.__init__" e)) (hrest : rest.length ≤ sizeLine)
    (hq : ∀ h' t1, (∀ b o, b ≠ e → h.get? b = some o → h'.get? b = some o) → h'.get? e = some (excO C t1) → Q .none ⟨h', g, d, t, os⟩) :
    wpAny (model prog w) A (call (.ref u) rest) Q E ⟨h, g, d, t, os⟩ := by
  refine wpAny_call (codeAny_of_tree ?_)
  show wpAny _ A.in1 (callAny (.ref u) ⟨rest, []⟩) _ _ _
  simp only [callAny]
  refine wpAny_bind (wpAny_load hu ?_)
  simp only [kxs_mw, show (Value.type "method-wrapper" == Value.type "method" || Value.type "method-wrapper" == Value.type "builtin_function_or_method" || Value.type "method-wrapper" == Value.type "method-wrapper") = true by decide, if_true]
  refine W.KFB.if_so (by decide) ?_
  refine wpAny_bind (check_bound_init F.excBase_ValueError.toExcCallFacts hC he rfl ?_)
  refine wpAny_bind (wpAny_pure (wpAny_pure ?_))
  refine ⟨plainId_quiet F.excBase_ValueError.init.plain _, codeAny_builtin F.excBase_ValueError.initEntry ?_⟩
  rw [Around.under_plainId F.excBase_ValueError.init.plain _]
  wp_walk
  refine hq _ h.objs.size (fun b o hb ho => ?_) ?_
  · rw [Heap.get?_update_other _ _ (Ne.symm hb)]
    exact Heap.get?_push_of_some _ ho
  · rw [Heap.get?_update_self _ (Heap.get?_push_of_some _ he) rfl]
    rfl
theorem x_kind (h : fn = "at" ∨ fn = "value") : List.lookup fn (xScope fn).names = some .local := by rcases h with rfl | rfl <;> rfl
theorem x_dbg (h : fn = "at" ∨ fn = "value") : (fn == ("__debug__" : Str)) = false := by rcases h with rfl | rfl <;> decide
theorem x_kind2 {x : Str} {k : NameKind} (hx : x = "self" ∧ k = .local ∨ x = "super" ∧ k = .globalImplicit ∨ x = "__class__" ∧ k = .free) (h : fn = "at" ∨ fn = "value") : List.lookup x (xScope fn).names = some k := by
  rcases hx with ⟨rfl, rfl⟩ | ⟨rfl, rfl⟩ | ⟨rfl, rfl⟩ <;> rcases h with rfl | rfl <;> rfl
theorem x_init (T : ExT prog K mg nm fn txt qi C fI) {x t0 : Addr} {v : Value} {mb : Str → Option Value} (X : K.In s.heap) (hg : s.heap.Ns mainGlobals mg) (hb : s.heap.Ns builtinsNs mb) (hbb : ∀ y : Str, y ≠ "__name__" → mb y = bootBuiltins y)
    (hlim : s.heap.NoLimit) (hx : s.heap.get? x = some (excO C t0)) (hnx : K.lookup x = none) (hroom : A.depth < recursionLimit)
    (hq : ∀ h' tk dx t1, XEnd s.heap h' x C dx t1 fn v → R (.ok (.ret .none)) { s with heap := h', toks := tk }) :
    codeAny (model prog w) A (.call (.ref fI) ⟨[.ref x, v], []⟩) R s := by
  obtain ⟨oc, od, doc, pm, an, ct, osl, cc, cda, p, ho, hcd, hline, ⟨oc2, od2, vs, osl2, file, tf, hcode, hvs, hfile⟩, ⟨oc3, od3, osl3, hcell⟩⟩ := T.fn_
  obtain ⟨nm', q, N, bs, bm, sn, sub, ab, col, dd, k0, k1, k2, k3, k5, hC, hbm⟩ := T.cls
  have hcl : clsIn K C = some { name := nm', bases := bs, mro := .ref C :: bm, ns := N, qualname := q, hasDict := true, slotNames := sn, subclasses := sub, abstract := ab, collection := col, hasDel := false } := by unfold clsIn; rw [hC] <;> rfl
  refine ks_codeAny_call_defAt (fd := ksFn "__init__" qi (xArgs fn p) (xBody fn txt p) (xScope fn) .none .none doc pm an (.ref cda) ct cc) (body := xBody fn txt p) (binds := [("self", .ref x), (fn, v)])
    hroom (X _ _ ho) rfl hlim (codeRec_of X hcd) rfl (BindsTo.of_eq ?b) ?c ?l (fun h₁ hn k => ?_) rfl rfl rfl
  case b => rcases T.fnOk with rfl | rfl <;> rfl
  case c =>
    intro y hy
    rcases List.mem_cons.mp hy with rfl | hy
    · intro z; cases z
    rcases List.mem_cons.mp hy with rfl | hy
    · intro z; cases z
    rcases List.mem_cons.mp hy with rfl | hy
    · intro z; cases z
    rcases List.mem_cons.mp hy with rfl | hy
    · intro z; cases z
    cases hy
  case l =>
    intro y hy
    rcases List.mem_cons.mp hy with rfl | hy
    · rfl
    rcases List.mem_cons.mp hy with rfl | hy
    · rcases T.fnOk with rfl | rfl <;> rfl
    cases hy
  have X₁ : K.In h₁ := X.keeps k
  have hx₁ := k _ _ hx
  have hxL : s.heap.objs.size ≠ x := Nat.ne_of_gt (Heap.lt_size hx)
  obtain ⟨oD, hD1, hD2⟩ : ∃ oD, h₁.get? C = some oD ∧ oD.data = .cls { name := nm', bases := bs, mro := .ref C :: bm, ns := N, qualname := q, hasDict := true, slotNames := sn, subclasses := sub, abstract := ab, collection := col, hasDel := false } := ⟨_, X₁ _ _ hC, rfl⟩
  have hn' : h₁.Ns s.heap.objs.size (fun y => ([("self", .ref x), (fn, v)] : List (Str × Value)).reverse.lookup y) := hn
  have hvS : ([("self", .ref x), (fn, v)] : List (Str × Value)).reverse.lookup ("self" : Str) = some (.ref x) := by rcases T.fnOk with rfl | rfl <;> rfl
  have hvF : ([("self", .ref x), (fn, v)] : List (Str × Value)).reverse.lookup fn = some v := by rcases T.fnOk with rfl | rfl <;> rfl
  have nb : ("super" : Str) ≠ "__name__" := by decide
  have hxC : x ≠ C := fun z => by rw [z] at hnx; rw [show K.lookup C = some _ from hC] at hnx; cases hnx
  refine ks_wpAt_execs_cons (ks_wpAt_Expr_any (ks_wpAt_MethodCall (pl := L2.plainOf (.Call (.Name "super" p.b1) [] [] p.b2) (callEnv (ksFn "__init__" qi (xArgs fn p) (xBody fn txt p) (xScope fn) .none .none doc pm an (.ref cda) ct cc) s.heap.objs.size fI)) ?_ ?he))
  case he =>
    show (attributeBase _ _ _ _ >>= fun ov => standAt _ >>= fun _ => methodCall _ _ _ _ _ ov 1 _ []) = _
    congr 1
    funext ov
    congr 1
    funext _
    exact L2.mcall_line rfl hline
  refine ks_wpAt_super_base (f := fI) (cc := cda) (ar := ⟨"self", none, p.a1⟩) (by rcases T.fnOk with rfl | rfl <;> rfl) (by rcases T.fnOk with rfl | rfl <;> rfl) (by decide) rfl (X₁ _ _ ho) rfl rfl rfl (X₁ _ _ hcode) rfl hvs hfile T.htop ?_
  refine ks_loadName_global rfl (by rcases T.fnOk with rfl | rfl <;> rfl) (loadGlobal_builtin (hg.keeps k) T.s0 (hb.keeps k) ((hbb _ nb).trans (show bootBuiltins "super" = some (.type "super") by kernel_rfl)) ⟨rfl, ?_⟩)
  refine wpAny_loadName_free (c := cc) rfl (by rcases T.fnOk with rfl | rfl <;> rfl) rfl ⟨_, X₁ _ _ hcell, rfl⟩ ?_
  refine wpAny_loadName_local rfl (by rcases T.fnOk with rfl | rfl <;> rfl) hn' hvS ?_
  refine ks_wpAny_isType_cls hD1 hD2 ⟨rfl, ?_⟩
  refine ks_wpAny_call_super hD1 hD2 hx₁ rfl (fun c e => nomatch e) (looks_mroIn X₁ T.own) (fun h₂ e₂ k₂ => ?_)
  have X₂ : K.In h₂ := X₁.keeps k₂
  have hx₂ := k₂ _ _ hx₁
  have I₂ : InstAt h₂ x (excO C t0) C none := ⟨hx₂, rfl, rfl, trivial⟩
  have sup := T.sup
  unfold ks_superIn at sup
  rw [hcl] at sup
  refine kxs_getMethod kxs_ValueError e₂ (looks_opaque X₂ T.opq) (fun A Q E s k q => wpAny_bind ((looks_clsIn X₂ hcl) A _ E s k (wpAny_pure q))) rfl X₂ sup (I₂.type.andThen (looks_subIn X₂ T.subV)) hxC (by decide) ?_
  have hu : (h₂.push (kxs_mw "ValueError.__init__" x)).get? h₂.objs.size = some (kxs_mw "ValueError.__init__" x) := Heap.get?_push_at rfl rfl
  have k₃ : ∀ b o, h₂.get? b = some o → (h₂.push (kxs_mw "ValueError.__init__" x)).get? b = some o := fun b o e => Heap.get?_push_of_some _ e
  refine kxs_callWith (i := "ValueError.__init__") (x := x) rfl ?_
  refine evalArgs_plain ?_
  refine spliced_more (wpAny_Constant_str (spliced_none ?_)) rfl
  refine ⟨hu, ?_⟩
  refine bound_call ((X₂.keeps k₃) _ _ hC) (k₃ _ _ hx₂) hu (sz1 _) (fun h₄ t1 k₄ hx₄ => ?_)
  have X₄ : K.In h₄ := in_but (X₂.keeps k₃) hnx k₄
  have old : ∀ b o, b ≠ x → s.heap.get? b = some o → h₄.get? b = some o := fun b o hb e => k₄ b o hb (k₃ b o (k₂ b o (k b o e)))
  have hn₄ : h₄.Ns s.heap.objs.size (fun y => ([("self", .ref x), (fn, v)] : List (Str × Value)).reverse.lookup y) := hn'.at fun o e => k₄ _ _ hxL (k₃ _ _ (k₂ _ _ e))
  refine ks_wpAt_execs_cons (ks_wpAt_Assign_Attr ?_ (by rfl))
  refine wpAt_of_wpAny (wpAny_Name ?_ (x_dbg T.fnOk))
  refine wpAny_loadName_local rfl (x_kind T.fnOk) hn₄ hvF ?_
  refine wpAny_Name ?_ (by decide)
  refine wpAny_loadName_local rfl (x_kind2 (.inl ⟨rfl, rfl⟩) T.fnOk) hn₄ hvS ?_
  refine set_plain X₄ (ox := excO C t1) (od := none) ⟨hx₄, rfl, rfl, trivial⟩ T.sa ?_
  refine exc_osa X₄ hx₄ hcl (show refsVE (.ref C :: bm) = true from hbm) rfl T.noN (fun h₅ tk₅ dx k₅ dn dne hx₅ hn₅ => ?_)
  refine wpAt_of_wpAny (wpAny_execs_nil (hq h₅ tk₅ dx t1 ⟨fun b o hb e => k₅ b o hb (old b o hb e), hx₅, ?_, dne, hn₅⟩))
  have z : s.heap.objs.size < h₄.objs.size := hn₄.lt
  exact Nat.le_of_lt (Nat.lt_of_lt_of_le z dn)
/-- an error that has been made -/
structure XMade (h h' : Heap) (e C d : Addr) (fn : Str) (v : Value) : Prop where
  keep : ∀ b o, h.get? b = some o → h'.get? b = some o
  new : h.objs.size ≤ e
  obj : ∃ oe vs, h'.get? e = some oe ∧ oe.cls = .ref C ∧ oe.dict = some d ∧ oe.data = .fields vs ∧ vs[1]? = some .none
  dbig : h.objs.size ≤ d
  dne : d ≠ e
  ns : h'.Ns1 d (fun y => if y = fn then some v else none)
theorem x_made (T : ExT prog K mg nm fn txt qi C fI) {v : Value} {mb : Str → Option Value} (X : K.In s.heap) (hg : s.heap.Ns mainGlobals mg) (hb : s.heap.Ns builtinsNs mb) (hbb : ∀ y : Str, y ≠ "__name__" → mb y = bootBuiltins y)
    (hlim : s.heap.NoLimit) (hroom : A.depth + 1 < recursionLimit) (hq : ∀ h' tk e d, XMade s.heap h' e C d fn v → R (.ok (.ret (.ref e))) { s with heap := h', toks := tk }) :
    codeAny (model prog w) A (.call (.ref C) ⟨[v], []⟩) R s := by
  obtain ⟨_, _, _, _, bm, _, _, _, _, _, _, _, _, _, _, hC, hbm⟩ := T.cls
  obtain ⟨hp, g, dr, tk, os⟩ := s
  have k : ∀ b o, hp.get? b = some o → ((hp.push (kdv_tup [v])).push (excO C hp.objs.size)).get? b = some o := fun b o e =>
    Heap.get?_push_of_some _ (Heap.get?_push_of_some _ e)
  have hnew : ((hp.push (kdv_tup [v])).push (excO C hp.objs.size)).get? (hp.objs.size + 1) = some (excO C hp.objs.size) := by heap_get
  have hnx : K.lookup (hp.objs.size + 1) = none := by
    cases e : K.lookup (hp.objs.size + 1) with
    | none => rfl
    | some o => exact absurd (Nat.lt_of_succ_lt (Heap.lt_size (show hp.get? (hp.objs.size + 1) = some o from X _ _ e))) (Nat.lt_irrefl _)
  refine call_own F.excBase_ValueError (fun X => refsVE_contains X bm hbm) (X _ _ hC) (looks_findIn X T.iC) (fun self => bind_fn X self T.tC) (sz1 v) ?_
  refine x_init (s := ⟨(hp.push (kdv_tup [v])).push (excO C hp.objs.size), g, dr, tk, os⟩) T (X.keeps k) (hg.keeps k) (hb.keeps k) hbb (hlim.keeps k) hnew hnx (show A.depth + 1 < recursionLimit from hroom) fun h' tk' dx t1 z => ?_
  have old : ∀ b o, hp.get? b = some o → h'.get? b = some o := fun b o e => z.keep b o (fun (q : b = hp.objs.size + 1) => absurd (Nat.lt_of_succ_lt (q ▸ Heap.lt_size e : hp.objs.size + 1 < hp.objs.size)) (Nat.lt_irrefl _)) (k b o e)
  have big : hp.objs.size ≤ dx := by
    have q := z.dbig
    rw [Heap.size_push, Heap.size_push] at q
    exact Nat.le_trans (Nat.le_trans (Nat.le_succ _) (Nat.le_succ _)) q
  exact ⟨rfl, hq h' tk' (hp.objs.size + 1) dx ⟨old, Nat.le_succ _, ⟨_, _, z.obj, rfl, rfl, rfl, rfl⟩, big, z.dne, z.ns⟩⟩
end
end Mir
end part_MirX
section part_MirY
set_option maxHeartbeats 1000000
/-! MirY: raise, try, what a suite does with the error. -/
namespace Mir
open PySem PySem.Spec PyProof.Rows L2

theorem relO_one {fn : Str} {v : V} {v' : Value} (r : RelV v v') (f : Str) : L2.RelO (List.lookup f [(fn, v)]) (if f = fn then some v' else none) := by
  by_cases hw : f = fn
  · have q : List.lookup f [(fn, v)] = some v := by simp [List.lookup, hw]
    rw [if_pos hw, q]
    exact r
  · have qw : (f == fn) = false := by simpa using hw
    have q : List.lookup f [(fn, v)] = none := by simp [List.lookup, qw]
    rw [if_neg hw, q]
    trivial
section
variable {X : Cx} {W : WX} {nm fn txt qi : Str} {C fI : Addr}
/-- the class called -/
def tMkX (C : Addr) (fn : Str) (ta : TA) : SS → Hp → XK → Prop := fun σ H Q => ta σ H fun vs H1 => ∃ v, vs = [v] ∧ ∀ d, H1 d = none → Q (.ref C) (some d) (upd H1 d (.xd [(fn, v)]))
theorem pmk_x {a : Expr} {ta : TA} {p pos : Pos} {k : Nat} (T : ExT X.prog X.K X.mg nm fn txt qi C fI) (hr : Room k X.A) (ha : PA X [a] ta) (hg : Gl X nm) (hd : (nm == ("__debug__" : Str)) = false)
    (he : starEach (a :: []) X.env = (false, eval a X.env) :: starEach [] X.env) (hpl : (backTo pos (starEach [] X.env)).any (·.1) = false) :
    PMk X (.Call (.Name nm p) [a] [] pos) (tMkX C fn ta) := by
  intro pins s σ H Q I h
  refine wpAny_Call_Name_kw (ld_glob I hg T.gC ?_ hd)
  refine PySem.W.callWith_K (h₀ := X.base) I.ok.mod.kin T.kC (thn (ha.run pos pins s σ H _ I h) fun us s1 hh => ?_) he hpl
  obtain ⟨vs, H1, I1, r1, v, rfl, q1⟩ := hh
  refine ⟨I1.kIn, ?_⟩
  cases r1 with
  | cons rv rn =>
    rename_i v' us'
    cases rn
    show wpAny _ _ (call (.ref C) [v']) _ _ _
    have hlim := I1.nolimit
    obtain ⟨mb, hb1, hb2⟩ := I1.mod.blt
    have g1 := I1.mod.glob.keeps I1.bk
    have b1 := hb1.keeps I1.bk
    obtain ⟨hp, g, dr, tk, os⟩ := s1
    refine wpAny_call (x_made T I1.kIn g1 b1 hb2 hlim (by have := hr.dp; omega) fun h' tk' e d M => ?_)
    show MkP X pins σ Q (.ref e) ⟨h', g, dr, tk', os⟩
    obtain ⟨oe, fv, hoe, hc, hdc, hdat, h1⟩ := M.obj
    obtain ⟨G', gA, gB⟩ := restrict h' fun b => decide (b ≠ e)
    have gk : ∀ b, b ≠ e → G'.get? b = h'.get? b := fun b hb => gA b (decide_eq_true hb)
    have ge : G'.get? e = none := gB e (by simp)
    have ne : ∀ {b : Addr} {o : Obj}, hp.get? b = some o → b ≠ e := fun {b o} q => Nat.ne_of_lt (Nat.lt_of_lt_of_le (Heap.lt_size q) M.new)
    have ob : ObjOk X.prog X.w (upd H1 d (.xd [(fn, v)])) G' d (.xd [(fn, v)]) := ⟨_, M.ns.at (fun o q => (gk d M.dne).trans q), fun f => relO_one rv f⟩
    have J : Inv X pins σ (upd H1 d (.xd [(fn, v)])) ⟨G', g, dr, tk', os⟩ := I1.laid (t' := tk') (fun b o q => (gk b (ne q)).trans (M.keep b o q)) M.dbig ob
    refine ⟨e, oe, fv, ⟨G', g, dr, tk', os⟩, _, .ref C, some d, rfl, J, fun b o q => ?_, ge, hoe, ⟨hc, hdc⟩, hdat, h1, ?_, rfl, I1.bare, raises_own T.exC T.tyC, q1 d (I1.hok.fresh M.dbig)⟩
    · by_cases hb : b = e
      · rw [hb] at q
        exact nomatch (ge.symm.trans q)
      · exact (gk b hb).symm.trans q
    · rw [upd_ne (Ne.symm M.dne)]
      exact I1.hok.fresh M.new
def sRaise (nm fn : Str) (F : En → M (List D)) : FS := fun en => lift (F en) (fun ds en st => match ds with
  | [d] => .err ⟨nm, [(fn, d)]⟩ en st
  | _ => .bad) en
theorem es_raise {a : Expr} {F : En → M (List D)} {p pos pos2 : Pos} {k : Nat} (hc : X.calm = true) (T : ExT X.prog X.K X.mg nm fn txt qi C fI) (hr : Room k X.A) (tk : Takes X W) (ha : EvA X W [a] F) (hg : Gl X nm := by rfl) (hd : (nm == ("__debug__" : Str)) = false := by decide)
    (he : starEach (a :: []) X.env = (false, eval a X.env) :: starEach [] X.env := by rfl) (hpl : (backTo pos (starEach [] X.env)).any (·.1) = false := by rfl) :
    EvS X W (.Raise (some (.Call (.Name nm p) [a] [] pos)) none pos2) (sRaise nm fn F) :=
  (ps_raise hc tk (pmk_x T hr ha hg hd he hpl)).mirImp fun D σ H ⟨m, en, st, S, N, q⟩ => lift_wp (R := rL X.K) S N q fun m1 st1 ds vs H1 s1 S1 r N1 q1 => by
    split at q1
    · rename_i d
      obtain ⟨v, r', rfl, rv, rn⟩ := r
      cases rn
      refine ⟨v, rfl, fun dd hd => ?_⟩
      have q2 : PostSX X.K X.mg m1 H1 W ⟨nm, [(fn, d)]⟩ en st1 := q1
      refine q2 _ _ σ m1 _ (Step.new hd) (S1.new hd) (N1.sub (Step.new hd).sub) ⟨C, dd, _, T.gC, rfl, rfl, upd_same, S1.fresh hd, ⟨v, [], rfl, Rel.sub (Step.new hd).sub rv, rfl⟩⟩
    · exact q1.elim
end

/-! ### the suite: the error x, at a, its class at C, its dict at dd -/
section
variable (K : PySem.W.Frag) (mg : Str → Option Value) (x : Exn) (cls : Value) (d : Option Addr) (a : Addr) (i : Option Nat)
def XJ (m : List Addr) (H : Hp) (σ : SS) : Prop := RelX K mg m H x cls d ∧ ∀ j v, i = some j → σ[j]? = some v → v = some (.ref a)
def tJ {α β : Type} (R : RR α β) (W : WX) (F : En → M α) : SS → Hp → (β → Hp → Prop) → Prop := fun σ H Q =>
  ∃ m en st, Sim K m st H ∧ RelN K m H en σ ∧ XJ K mg x cls d a i m H σ ∧ (F en st).Wp (PostR K R m H Q) (PostX K mg m H (WE W σ))
def tJS (W : WX) (F : FS) : TS := fun D σ H => ∃ m en st, Sim K m st H ∧ RelN K m H en σ ∧ XJ K mg x cls d a i m H σ ∧ (F en st).Wp (PostS K m H D) (PostSX K mg m H W)
end
section
variable {K : PySem.W.Frag} {mg : Str → Option Value} {x : Exn} {cls : Value} {d : Option Addr} {a : Addr} {i : Option Nat} {m m1 : List Addr} {H H1 : Hp} {st : Sto} {σ : SS} {en : En} {α β γ δ : Type}
theorem RelX.step (s : Step K m H m1 H1) (h : RelX K mg m H x cls d) : RelX K mg m1 H1 x cls d := by
  obtain ⟨C, dd, fs, g, e1, e2, hd, n, r⟩ := h
  refine ⟨C, dd, fs, g, e1, e2, s.keep _ _ hd n, fun z => ?_, r.sub s.sub⟩
  obtain ⟨l, e, f⟩ := s.pre
  rw [e] at z
  rcases List.mem_append.mp z with z | z
  · exact n z
  · rw [f _ z] at hd; cases hd
theorem XJ.step (s : Step K m H m1 H1) (h : XJ K mg x cls d a i m H σ) : XJ K mg x cls d a i m1 H1 σ := ⟨h.1.step s, h.2⟩
theorem seqJ {R : RR α β} {R2 : RR γ δ} (hm : RMono K R2) {W : WX} {F : En → M α} {G : α → M γ} {Q : δ → Hp → Prop} {P : β → Hp → Prop}
    (S : Sim K m st H) (N : RelN K m H en σ) (j : XJ K mg x cls d a i m H σ) (h : ((F en >>= G) st).Wp (PostR K R2 m H Q) (PostX K mg m H (WE W σ)))
    (k : ∀ m1 st1 a' b H1, Step K m H m1 H1 → Sim K m1 st1 H1 → R H m1 H1 a' b → RelN K m1 H1 en σ → XJ K mg x cls d a i m1 H1 σ → (G a' st1).Wp (PostR K R2 m1 H1 Q) (PostX K mg m1 H1 (WE W σ)) → P b H1) :
    tJ K mg x cls d a i R W F σ H P := by
  refine ⟨m, en, st, S, N, j, wp_mono (wp_bind.mp h) (fun a' st1 q b m1 H1 s1 S1 r => ?_) fun y st1 q => q⟩
  exact k m1 st1 a' b H1 s1 S1 r (N.sub s1.sub) (j.step s1) (wp_mono q (fun _ _ z => z.step hm s1) fun _ _ z => z.step s1)
theorem liftJ {R : RR α β} {W : WX} {F : En → M α} {k : α → FS} {D : Ends} {P : β → Hp → Prop}
    (S : Sim K m st H) (N : RelN K m H en σ) (j : XJ K mg x cls d a i m H σ) (h : (lift (F en) k en st).Wp (PostS K m H D) (PostSX K mg m H W))
    (c : ∀ m1 st1 a' b H1, Step K m H m1 H1 → Sim K m1 st1 H1 → R H m1 H1 a' b → RelN K m1 H1 en σ → XJ K mg x cls d a i m1 H1 σ → (k a' en st1).Wp (PostS K m1 H1 D) (PostSX K mg m1 H1 W) → P b H1) :
    tJ K mg x cls d a i R W F σ H P := by
  refine ⟨m, en, st, S, N, j, wp_mono (wps_lift.mp h) (fun a' st1 q b m1 H1 s1 S1 r => ?_) fun y st1 q cls dd m1 H1 s1 S1 r => q cls dd σ m1 H1 s1 S1 (N.sub s1.sub) r⟩
  exact c m1 st1 a' b H1 s1 S1 r (N.sub s1.sub) (j.step s1) (wps_mono q (fun _ _ _ z => z.step s1) fun _ _ _ z => z.step s1)
end
section
variable (Y : Cx) (x : Exn) (cls : Value) (d : Option Addr) (a : Addr) (i : Option Nat) (W : WX)
abbrev JvE (e : Expr) (F : En → M D) : Prop := PE Y e (tJ Y.K Y.mg x cls d a i (rD Y.K) W F)
abbrev JvA (e : List Expr) (F : En → M (List D)) : Prop := PA Y e (tJ Y.K Y.mg x cls d a i (rL Y.K) W F)
abbrev JvT (e : Expr) (F : En → M Bool) : Prop := PT Y e (tJ Y.K Y.mg x cls d a i rB W F)
abbrev JvW (e : Expr) (F : En → M Bool) : Prop := PW Y e (tJ Y.K Y.mg x cls d a i rB W F)
abbrev JvS (s : Stmt) (F : FS) : Prop := PS Y s (tJS Y.K Y.mg x cls d a i W F)
abbrev JvB (s : List Stmt) (F : FS) : Prop := PSs Y s (tJS Y.K Y.mg x cls d a i W F)
end
section
variable {Y : Cx} {x : Exn} {cls : Value} {d : Option Addr} {a : Addr} {i : Option Nat} {W : WX} {pos : Pos}
theorem jv_plain {e : Expr} {F : En → M D} (h : EvE Y W e F) : JvE Y x cls d a i W e F := h.mirImp fun σ H Q ⟨m, en, st, S, N, _, q⟩ => ⟨m, en, st, S, N, q⟩
theorem jt_plain {e : Expr} {F : En → M Bool} (h : EvT Y W e F) : JvT Y x cls d a i W e F := h.mirImp fun σ H Q ⟨m, en, st, S, N, _, q⟩ => ⟨m, en, st, S, N, q⟩
theorem ja_nil : JvA Y x cls d a i W [] aNil := pa_nil.mirImp fun σ H Q ⟨m, en, st, S, N, j, q⟩ => (wp_pure.mp q) _ m H .refl S rfl
theorem ja_cons {e : Expr} {es : List Expr} {F : En → M D} {G : En → M (List D)} (h : JvE Y x cls d a i W e F) (h2 : JvA Y x cls d a i W es G) (hs : starEach (e :: es) Y.env = (false, eval e Y.env) :: starEach es Y.env := by rfl) : JvA Y x cls d a i W (e :: es) (aCons F G) :=
  (pa_cons h h2 hs).mirImp fun σ H Q ⟨m, en, st, S, N, j, q⟩ => by
    refine seqJ mono_L S N j q fun m1 st1 v u H1 s1 S1 r N1 j1 q1 => ?_
    refine seqJ mono_L S1 N1 j1 q1 fun m2 st2 vs us H2 s2 S2 r2 N2 j2 q2 => ?_
    exact (wp_pure.mp q2) _ m2 H2 .refl S2 ⟨_, _, rfl, Rel.sub s2.sub r, r2⟩
theorem jv_tup {es : List Expr} {x1 : Nat} {F : En → M (List D)} (h : JvA Y x cls d a i W es F) : JvE Y x cls d a i W (.Tuple es x1 pos) (fTup F) :=
  (pe_tup h).mirImp fun σ H Q ⟨m, en, st, S, N, j, q⟩ => seqJ mono_D S N j q fun m1 st1 ds vs H1 s1 S1 r N1 j1 q1 => by
    obtain ⟨hz, q2⟩ := wp_within.mp (wp_bind.mp q1)
    have hl : ds.length = vs.length := RelL.length r
    exact ⟨hl ▸ hz, fun p hp => (wp_pure.mp q2) _ m1 _ (Step.new hp) (S1.new hp) ⟨p, vs, rfl, SqT.of upd_same, RelL.sub (Step.new hp).sub r⟩⟩
theorem jv_if {c e1 e2 : Expr} {Fc : En → M Bool} {Fa Fb : En → M D} (hc : JvT Y x cls d a i W c Fc) (ha : JvE Y x cls d a i W e1 Fa) (hb : JvE Y x cls d a i W e2 Fb) : JvE Y x cls d a i W (.IfExp c e1 e2 pos) (fIf Fc Fa Fb) :=
  (pe_ifExp hc ha hb).mirImp fun σ H Q ⟨m, en, st, S, N, j, q⟩ => seqJ mono_D S N j q fun m1 st1 c c' H1 s1 S1 e N1 j1 q1 => by
    cases (e : c = c')
    cases c with
    | true => exact ⟨m1, en, st1, S1, N1, j1, q1⟩
    | false => exact ⟨m1, en, st1, S1, N1, j1, q1⟩
theorem jt_val {e : Expr} {F : En → M D} (h : JvE Y x cls d a i W e F) (he : ∀ whole, isTrue e Y.env whole = (do let v ← whole; standAt e.pos; holding [v] (truthy v)) := by intro _; rfl) : JvT Y x cls d a i W e (tE F) :=
  (pt_val h he).mirImp fun σ H Q ⟨m, en, st, S, N, j, q⟩ => by
    refine seqJ mono_B S N j q fun m1 st1 v u H1 s1 S1 r N1 j1 q1 => ?_
    unfold asB at q1
    split at q1
    · cases r
      exact ⟨_, rfl, (wp_pure.mp q1) _ m1 H1 .refl S1 rfl⟩
    · exact (q1 : False).elim
theorem jt_not {e : Expr} {F : En → M Bool} (h : JvT Y x cls d a i W e F) : JvT Y x cls d a i W (.UnaryOp .Not e pos) (tNotM F) :=
  (pt_not h).mirImp fun σ H Q ⟨m, en, st, S, N, j, q⟩ => seqJ mono_B S N j q fun m1 st1 c c' H1 s1 S1 e N1 j1 q1 => by
    cases (e : c = c')
    exact (wp_pure.mp q1) _ m1 H1 .refl S1 rfl
theorem jt_w {e : Expr} {F : En → M Bool} (h : JvW Y x cls d a i W e F) : JvT Y x cls d a i W e F := h.pt
theorem jw_or1 {e : Expr} {F : En → M Bool} (h : JvT Y x cls d a i W e F) : JvW Y x cls d a i W (.BoolOp .Or [e] pos) F := pw_or1 h
theorem jw_and1 {e : Expr} {F : En → M Bool} (h : JvT Y x cls d a i W e F) : JvW Y x cls d a i W (.BoolOp .And [e] pos) F := pw_and1 h
theorem jw_or {e b : Expr} {r : List Expr} {F G : En → M Bool} (h : JvT Y x cls d a i W e F) (h2 : JvW Y x cls d a i W (.BoolOp .Or (b :: r) pos) G) : JvW Y x cls d a i W (.BoolOp .Or (e :: b :: r) pos) (tOrM F G) :=
  (pw_or h h2).mirImp fun σ H Q ⟨m, en, st, S, N, j, q⟩ => seqJ mono_B S N j q fun m1 st1 c c' H1 s1 S1 e N1 j1 q1 => by
    cases (e : c = c')
    cases c with
    | true => exact (wp_pure.mp q1) _ m1 H1 .refl S1 rfl
    | false => exact ⟨m1, en, st1, S1, N1, j1, q1⟩
theorem jw_and {e b : Expr} {r : List Expr} {F G : En → M Bool} (h : JvT Y x cls d a i W e F) (h2 : JvW Y x cls d a i W (.BoolOp .And (b :: r) pos) G) : JvW Y x cls d a i W (.BoolOp .And (e :: b :: r) pos) (tAndM F G) :=
  (pw_and h h2).mirImp fun σ H Q ⟨m, en, st, S, N, j, q⟩ => seqJ mono_B S N j q fun m1 st1 c c' H1 s1 S1 e N1 j1 q1 => by
    cases (e : c = c')
    cases c with
    | true => exact ⟨m1, en, st1, S1, N1, j1, q1⟩
    | false => exact (wp_pure.mp q1) _ m1 H1 .refl S1 rfl
theorem jb_nil : JvB Y x cls d a i W [] sNx := pss_nil.mirImp fun D σ H ⟨m, en, st, S, N, j, q⟩ => (okS q) σ m H .refl S N
theorem js_ret {e : Expr} {F : En → M D} (h : JvE Y x cls d a i W e F) : JvS Y x cls d a i W (.Return (some e) pos) (sRet F) :=
  (ps_ret h).mirImp fun D σ H ⟨m, en, st, S, N, j, q⟩ => liftJ S N j q fun m1 st1 v b H1 s1 S1 r N1 j1 q1 => (okS q1) b m1 H1 .refl S1 r
theorem js_if {c : Expr} {s1 s2 : List Stmt} {Fc : En → M Bool} {Fa Fb : FS} (hc : JvT Y x cls d a i W c Fc) (ha : JvB Y x cls d a i W s1 Fa) (hb : JvB Y x cls d a i W s2 Fb) : JvS Y x cls d a i W (.If c s1 s2 pos) (sIf Fc Fa Fb) :=
  (ps_if hc ha hb).mirImp fun D σ H ⟨m, en, st, S, N, j, q⟩ => liftJ S N j q fun m1 st1 v b H1 s1 S1 r N1 j1 q1 => by
    cases (r : v = b)
    cases v with
    | true => exact ⟨m1, en, st1, S1, N1, j1, q1⟩
    | false => exact ⟨m1, en, st1, S1, N1, j1, q1⟩
theorem jb_one {s : Stmt} {F : FS} (h : JvS Y x cls d a i W s F) : JvB Y x cls d a i W [s] F := pss_one h
/-- an if that returns, ahead of the rest -/
def sOrElse (c : En → M Bool) (r : En → M D) (g : FS) : FS := fun en => lift (c en) (fun k => if k = true then sRet r else g) en
theorem jb_ifRet {c e : Expr} {ss : List Stmt} {Fc : En → M Bool} {F : En → M D} {G : FS} {p1 p2 : Pos} (hc : JvT Y x cls d a i W c Fc) (he : JvE Y x cls d a i W e F) (h2 : JvB Y x cls d a i W ss G) :
    JvB Y x cls d a i W (.If c [.Return (some e) p1] [] p2 :: ss) (sOrElse Fc F G) :=
  (pss_cons (ps_if hc (pss_one (ps_ret he)) pss_nil) h2).mirImp fun D σ H ⟨m, en, st, S, N, j, q⟩ => liftJ S N j q fun m1 st1 v b H1 s1 S1 r N1 j1 q1 => by
    cases (r : v = b)
    cases v with
    | true =>
      have q2 : (sRet F en st1).Wp (PostS Y.K m1 H1 D) (PostSX Y.K Y.mg m1 H1 W) := q1
      exact liftJ S1 N1 j1 q2 fun m2 st2 v b H2 s2 S2 r N2 j2 q3 => (okS q3) b m2 H2 .refl S2 r
    | false => exact ⟨m1, en, st1, S1, N1, j1, q1⟩
end

/-- what the class at C says, so that its errors are told by isinstance, their fields read -/
structure ExI (K : PySem.W.Frag) (C : Addr) : Prop where
  ga : PySem.W.findIn K (.ref C) "__getattribute__" = some (some (.builtin "BaseException.__getattribute__"))
  gg : PySem.W.findIn K (.ref C) "__getattr__" = some none
  exC : PySem.W.subIn K (.ref C) (.type "BaseException") = some true
  hdC : PySem.W.hasDictIn K C = true
  ha : PySem.W.findIn K (.ref C) "__class__" = some (some (.builtin "object.__class__"))
  hn : PySem.W.specialIn K (.builtin "object.__class__") "__get__" = some (some (.builtin "getset_descriptor.__get__"))
  ht : PySem.W.takesIn K (.builtin "object.__class__") = some true
  hm : PySem.W.mroIn K C (.type "object") = some true
theorem ExT.i {P : Program} {K : PySem.W.Frag} {mg : Str → Option Value} {nm fn txt qi : Str} {C fI : Addr} (T : ExT P K mg nm fn txt qi C fI) : ExI K C := ⟨T.ga, T.gg, T.exC, T.hdC, T.ha, T.hn, T.ht, T.hm⟩
section
variable {X : Cx} {x : Exn} {cls : Value} {d : Option Addr} {a : Addr} {i : Nat} {W : WX} {pos : Pos} {oe : Obj} {pn : List (Addr × Obj)}
theorem relKV_look {κ : Type} [BEq κ] {K : PySem.W.Frag} {m : List Addr} {H : Hp} {f : κ} {dv : D} : ∀ {ds : List (κ × D)} {vs : List (κ × V)}, RelKV K m H ds vs → ds.lookup f = some dv → ∃ v, vs.lookup f = some v ∧ Rel K m H dv v
  | [], _, _, e => by simp at e
  | (g, dd) :: ds, _, h, e => by
    obtain ⟨v, r, rfl, h1, h2⟩ := h
    rw [List.lookup_cons] at e ⊢
    split at e
    · cases e; rename_i q; exact ⟨v, by simp [q], h1⟩
    · rename_i q
      simp only [q]
      exact relKV_look h2 e
/-- the exception as it stands in the suite -/
theorem inst_at {pins : List (Addr × Obj)} {σ : SS} {m : List Addr} {H : Hp} {s : Shared} (I : L2.Inv (X.suite a ((a, oe) :: pn)) pins σ H s) (hz : Zc cls d oe) (hf : ∃ vs, oe.data = .fields vs) (r : RelX X.K X.mg m H x cls d) :
    ∃ C od fs, X.mg x.cls = some (.ref C) ∧ cls = .ref C ∧ PySem.W.InstAt s.heap a oe C (some od) ∧ RelKV X.K m H x.fs fs ∧ ∀ f, ∃ o, PySem.W.lookIn f od = some o ∧ L2.RelO (List.lookup f fs) o := by
  obtain ⟨C, dd, fs, g, rfl, rfl, hd, n, rk⟩ := r
  obtain ⟨hget, _⟩ := I.pin (a, oe) (List.mem_append_left _ List.mem_cons_self)
  obtain ⟨vs, hv⟩ := hf
  have hx : ObjOk X.prog X.w H s.heap dd (.xd fs) := I.hok dd _ hd
  obtain ⟨mA, hns, hr⟩ := hx
  obtain ⟨od, ho, hl⟩ := lookIn_ns hns
  refine ⟨C, od, fs, g, rfl, ⟨hget, hz.1, by unfold PySem.W.notCls; rw [hv] <;> rfl, by rw [hz.2]; exact ho⟩, rk, fun f => ⟨mA f, hl f, hr f⟩⟩
theorem slot_ref {pins : List (Addr × Obj)} {Y : Cx} {σ : SS} {m : List Addr} {H : Hp} {s : Shared} {n : Str} (I : L2.Inv Y pins σ H s) (hN : Y.N[i]? = some n) (j : XJ Y.K Y.mg x cls d a (some i) m H σ) : σ[i]? = some (some (.ref a)) := by
  have hi : i < σ.length := by
    rw [I.len]
    exact (List.getElem?_eq_some_iff.mp hN).1
  have e : σ[i]? = some σ[i] := List.getElem?_eq_getElem hi
  rw [e, j.2 i _ rfl e]
def fFld (x : Exn) (f : Str) : En → M D := fun _ => match x.fs.lookup f with
  | some v => pure v
  | none => bad
theorem jv_fld {n f : Str} {pp : Pos} (hz : Zc cls d oe) (hf : ∃ vs, oe.data = .fields vs) (hN : X.N[i]? = some n) (he : PE (X.suite a ((a, oe) :: pn)) (.Name n pp) (tVar i))
    (hc : ∀ C, X.mg x.cls = some (.ref C) → x.fs.lookup f ≠ none → ExI X.K C ∧ PySem.W.findIn X.K (.ref C) f = some none)
    (hb : attributeBase (.Name n pp) f X.env (eval (.Name n pp) X.env) = eval (.Name n pp) X.env := by rfl) :
    JvE (X.suite a ((a, oe) :: pn)) x cls d a (some i) W (.Attribute (.Name n pp) f pos) (fFld x f) := by
  refine ⟨fun pins s σ H Q I h => ?_⟩
  obtain ⟨m, en, st, S, N, j, q⟩ := h
  refine attr_of hb (thn (he.run pins s σ H (fun v H1 => v = .ref a ∧ H1 = H) I ⟨_, slot_ref I hN j, rfl, rfl⟩) fun u s1 hh => ?_)
  obtain ⟨v, H1, I1, rv, rfl, rfl⟩ := hh
  obtain rfl : u = Value.ref a := rv
  obtain ⟨C, od, fs, g, rfl, J, rk, hl⟩ := inst_at I1 hz hf j.1
  unfold fFld at q
  cases e : x.fs.lookup f with
  | none => rw [e] at q; exact (q : False).elim
  | some dv =>
    rw [e] at q
    obtain ⟨T, noN⟩ := hc C g (by rw [e]; exact fun z => nomatch z)
    obtain ⟨v, ev, r⟩ := relKV_look rk e
    obtain ⟨o, ho, hr⟩ := hl f
    rw [ev] at hr
    obtain ⟨u, rfl, ru⟩ := RelO.some_of hr
    exact HandSPX.exc_get I1.kIn J T.ga T.gg T.exC (PySem.W.findObj_own T.hdC noN rfl ho) (handed_of ru) ⟨v, _, I1.tok _, ru, (wp_pure.mp q) v m _ .refl S r⟩
/-- isinstance(e, c) -/
def rIsX (K : PySem.W.Frag) (mg : Str → Option Value) (x : Exn) (cls : Value) (d : Option Addr) (a : Addr) : List V → Hp → VK → Prop := fun xs H Q => ∃ (c : V) (cv : Value) (b : Bool) (m : List Addr), xs = [.ref a, c] ∧ (∀ u, RelV c u → u = cv) ∧
  RelX K mg m H x cls d ∧ (∀ C, mg x.cls = some (.ref C) → ExI K C ∧ PySem.W.kitOne K (.ref C) cv = some b) ∧ Q (.bl b) H
theorem call_isX (hz : Zc cls d oe) (hf : ∃ vs, oe.data = .fields vs) : CallR (X.suite a ((a, oe) :: pn)) (.builtin "isinstance") (rIsX X.K X.mg x cls d a) := by
  intro pins s σ H xs us Q I r h
  obtain ⟨c, cv, b, m, rfl, hcv, rx, hk, q⟩ := h
  cases r with
  | cons r1 rr =>
    cases rr with
    | cons rt rr =>
      cases rr
      cases r1
      have ec := hcv _ rt
      subst ec
      obtain ⟨C, od, fs, g, rfl, J, rk, hl⟩ := inst_at I hz hf rx
      obtain ⟨T, e⟩ := hk C g
      have hcl : (PySem.W.clsIn X.K C).isSome = true := by
        obtain ⟨cd, hc, _⟩ := PySem.W.any_some T.hdC
        rw [hc]
        rfl
      exact PySem.W.kia_one (PySem.W.kitx_exc hcl T.ga T.gg T.exC T.ha T.hn T.ht T.hm) I.kIn J e (fun z => nomatch z) fun tk => ⟨.bl b, H, I.kept (t' := tk) fun _ _ z => z, rfl, q⟩
/-- a table: each class's name, and what is told of it -/
abbrev Tab := List (Str × Bool)
def fTab (x : Exn) (t : Tab) : En → M D := fun _ => match t.lookup x.cls with
  | some b => pure (.bl b)
  | none => bad
theorem jv_isi {n c : Str} {t : Tab} {D : Addr} {p1 p2 p3 : Pos} (hz : Zc cls d oe) (hf : ∃ vs, oe.data = .fields vs) (hN : X.N[i]? = some n) (he : PE (X.suite a ((a, oe) :: pn)) (.Name n p2) (tVar i))
    (hm : X.mg "isinstance" = none) (hc : X.mg c = some (.ref D)) (ht : ∀ nm b, t.lookup nm = some b → ∀ C, X.mg nm = some (.ref C) → ExI X.K C ∧ PySem.W.kitOne X.K (.ref C) (.ref D) = some b)
    (hgl : Gl X "isinstance" := by rfl) (hgc : Gl X c := by rfl) (hdc : (c == ("__debug__" : Str)) = false := by decide)
    (h1 : starEach [.Name n p2, .Name c p3] X.env = (false, eval (.Name n p2) X.env) :: starEach [.Name c p3] X.env := by rfl) (h2 : starEach [.Name c p3] X.env = (false, eval (.Name c p3) X.env) :: starEach [] X.env := by rfl) (hpl : (backTo pos (starEach [.Name c p3] X.env)).any (·.1) = false := by rfl) :
    JvE (X.suite a ((a, oe) :: pn)) x cls d a (some i) W (.Call (.Name "isinstance" p1) [.Name n p2, .Name c p3] [] pos) (fTab x t) := by
  refine ⟨fun pins s σ H Q I h => ?_⟩
  obtain ⟨m, en, st, S, N, j, q⟩ := h
  refine (pe_callB (call_isX (x := x) hz hf) hgl hm (by decide +kernel) (pa_cons he (pa_cons (pe_glob (v := .ref D) hgc hc rfl hdc) pa_nil h2) h1) (by decide) (by decide) h1 hpl).run pins s σ H Q I ?_
  refine ⟨_, slot_ref I hN j, ?_⟩
  unfold fTab at q
  cases e : t.lookup x.cls with
  | none => rw [e] at q; exact (q : False).elim
  | some b =>
    rw [e] at q
    exact ⟨.ref D, .ref D, b, m, rfl, fun u z => z, j.1, ht _ _ e, (wp_pure.mp q) _ m H .refl S rfl⟩
end

/-! ### try -/
def offE (i : Option Nat) (en : En) : En := match i with
  | some i => en.set i none
  | none => en
/-- try: .. except C as n (n in slot i): t tells of which classes C takes -/
def sTry (t : Tab) (i : Option Nat) (Fb : FS) (Fs : Exn → FS) : FS := fun en st => match Fb en st with
  | .err x en' st' => (match t.lookup x.cls with
    | some true => (match Fs x (offE i en') st' with
      | .ok fl en2 st2 => .ok fl (offE i en2) st2
      | _ => .bad)
    | some false => .err x en' st'
    | none => .bad)
  | o => o
section
variable {X : Cx} {W : WX} {pos pos' np : Pos} {n c : Str} {cv : Value} {i : Nat} {body suite : List Stmt} {b₀ : Stmt} {Fb : FS} {Fs : Exn → FS} {t : Tab}

theorem es_tryAs (hs : X.stack = X.env :: X.outer) (hf : X.env.frame = some X.env.locals) (hN : X.N.Nodup) (hi : X.N[i]? = some n) (hln : X.env.kindOf n = some .local) (hc : Names X c cv) (tk : Takes X W)
    (ht : ∀ nm b, t.lookup nm = some b → ∀ C, X.mg nm = some (.ref C) → PySem.W.exmOne X.K (.ref C) cv = some b)
    (hb : ∀ (W' : WX) (pn : List (Addr × Obj)) (xe : Value → Shared → Prop), Takes (X.tr pn xe) W' → PassesOwn (model X.prog X.w) X.A X.env xe → EvB (X.tr pn xe) W' body Fb)
    (hsu : ∀ (a : Addr) (oe : Obj) (cls : Value) (d : Option Addr) (pn : List (Addr × Obj)) (x : Exn), Zc cls d oe → (∃ vs, oe.data = .fields vs) → JvB (X.suite a ((a, oe) :: pn)) x cls d a (some i) W0 (b₀ :: suite) (Fs x)) :
    EvS X W (.Try body [.ExceptHandler (some (.Name c np)) (some n) (b₀ :: suite) pos'] [] [] pos) (sTry t (some i) Fb Fs) := by
  refine (ps_try_as (Wout := W) (tb := fun W' => tS X.K X.mg W' Fb) (ts := fun a cls d D σ H => ∃ x, tJS X.K X.mg x cls d a (some i) W0 (Fs x) D σ H) hs hf hN hi hln hc tk hb
    fun a oe cls d pn hz hv => ⟨fun pins s σ H D I ⟨x, h⟩ => (hsu a oe cls d pn x hz hv).run pins s σ H D I h⟩).mirImp fun D σ H h => ?_
  obtain ⟨m, en, st, S, N, q⟩ := h
  refine ⟨m, en, st, S, N, ?_⟩
  unfold sTry at q
  cases e : Fb en st with
  | bad => rw [e] at q; exact q
  | ok fl en' st' => rw [e] at q; exact q
  | err x en' st' =>
    rw [e] at q
    dsimp only at q
    intro cls dd σ' m' H' s' S2 N2 rx
    obtain ⟨C, dd', fs, g, rfl, rest⟩ := id rx
    cases el : t.lookup x.cls with
    | none => rw [el] at q; exact (q : False).elim
    | some b =>
      rw [el] at q
      refine ⟨b, ht _ _ el C g, fun hb' a ha => ?_, fun hb' => ?_⟩
      · subst hb'
        refine ⟨x, m', en'.set i none, st', S2, N2.setNone i _, ⟨rx, fun j v hj hv => ?_⟩, ?_⟩
        · cases hj
          by_cases hl : i < σ'.length
          · rw [List.getElem?_set_self hl] at hv
            exact (Option.some.inj hv).symm
          · rw [List.getElem?_eq_none (by simpa using hl)] at hv
            cases hv
        · dsimp only [offE] at q
          cases ef : Fs x (en'.set i none) st' with
          | bad => rw [ef] at q; exact (q : False).elim
          | err y en2 st2 => rw [ef] at q; exact (q : False).elim
          | ok fl en2 st2 =>
            rw [ef] at q
            have q2 : PostS X.K m H D fl (en2.set i none) st2 := q
            cases fl with
            | nx => exact fun σ2 m2 H2 s2 S3 N3 => q2 _ m2 H2 (s'.trans s2) S3 (N3.setNone i none)
            | bk => exact fun σ2 m2 H2 s2 S3 N3 => q2 _ m2 H2 (s'.trans s2) S3 (N3.setNone i none)
            | ct => exact fun σ2 m2 H2 s2 S3 N3 => q2 _ m2 H2 (s'.trans s2) S3 (N3.setNone i none)
            | rt dv => exact PostR.step mono_D s' q2
      · subst hb'
        exact (q : PostSX X.K X.mg m H W x en' st') _ dd σ' m' H' s' S2 N2 rx
theorem es_try (hs : X.stack = X.env :: X.outer) (hf : X.env.frame = some X.env.locals) (hc : Names X c cv) (tk : Takes X W)
    (ht : ∀ nm b, t.lookup nm = some b → ∀ C, X.mg nm = some (.ref C) → PySem.W.exmOne X.K (.ref C) cv = some b)
    (hb : ∀ (W' : WX) (pn : List (Addr × Obj)) (xe : Value → Shared → Prop), Takes (X.tr pn xe) W' → PassesOwn (model X.prog X.w) X.A X.env xe → EvB (X.tr pn xe) W' body Fb)
    (hsu : ∀ (a : Addr) (oe : Obj) (cls : Value) (d : Option Addr) (pn : List (Addr × Obj)) (x : Exn), Zc cls d oe → (∃ vs, oe.data = .fields vs) → JvB (X.suite a ((a, oe) :: pn)) x cls d a none W0 (b₀ :: suite) (Fs x)) :
    EvS X W (.Try body [.ExceptHandler (some (.Name c np)) none (b₀ :: suite) pos'] [] [] pos) (sTry t none Fb Fs) := by
  refine (ps_try_only (Wout := W) (tb := fun W' => tS X.K X.mg W' Fb) (ts := fun a cls d D σ H => ∃ x, tJS X.K X.mg x cls d a none W0 (Fs x) D σ H) hs hf hc tk hb
    fun a oe cls d pn hz hv => ⟨fun pins s σ H D I ⟨x, h⟩ => (hsu a oe cls d pn x hz hv).run pins s σ H D I h⟩).mirImp fun D σ H h => ?_
  obtain ⟨m, en, st, S, N, q⟩ := h
  refine ⟨m, en, st, S, N, ?_⟩
  unfold sTry at q
  cases e : Fb en st with
  | bad => rw [e] at q; exact q
  | ok fl en' st' => rw [e] at q; exact q
  | err x en' st' =>
    rw [e] at q
    dsimp only at q
    intro cls dd σ' m' H' s' S2 N2 rx
    obtain ⟨C, dd', fs, g, rfl, rest⟩ := id rx
    cases el : t.lookup x.cls with
    | none => rw [el] at q; exact (q : False).elim
    | some b =>
      rw [el] at q
      refine ⟨b, ht _ _ el C g, fun hb' a ha => ?_, fun hb' => ?_⟩
      · subst hb'
        refine ⟨x, m', en', st', S2, N2, ⟨rx, fun j v hj => nomatch hj⟩, ?_⟩
        dsimp only [offE] at q
        cases ef : Fs x en' st' with
        | bad => rw [ef] at q; exact (q : False).elim
        | err y en2 st2 => rw [ef] at q; exact (q : False).elim
        | ok fl en2 st2 =>
          rw [ef] at q
          exact (q : PostS X.K m H D fl en2 st2).step s'
      · subst hb'
        exact (q : PostSX X.K X.mg m H W x en' st') _ dd σ' m' H' s' S2 N2 rx
end
end Mir
end part_MirY
section part_Mir7
set_option maxHeartbeats 1000000
/-! Mir7: sorted, in, stores, further words. -/
namespace Mir
open PySem PySem.Spec PyProof.Rows L2

section
open PySem.W PySem.Calls
variable {prog : Program} {w : World} {A : Around} {E : Value → Shared → Prop} {s : Shared} {β : Type} {R : Value → β → Prop} {enc : β → PyData} {bs : List β}
/-- sorted(it), it a list or a tuple that reads as alike data -/
theorem sorted_any {it : Addr} {T : String} {o : Obj} {its : List Value} {n : Nat} {Q : Value → Shared → Prop} (hT : T = "list" ∨ T = "tuple") (ho : s.heap.get? it = some o) (hc : o.cls = .type T) (hd : o.data = .seq its.toArray n)
    (e : EachIs R its bs) (er : EachIs (fun v b => ∃ as, Reads s.heap v (enc b) as) its bs) (hal : AllAlike (bs.map enc)) (hk : Sortable (bs.map enc)) (hL : bs.length ≤ sizeLine)
    (hu : ∀ b, b ∈ bs → A.units + 2 + (enc b).depth < cLine) (rev : Bool) {kw : List (Str × Value)} (hkw : (rev = false ∧ kw = []) ∨ kw = [(Str.ofString "reverse", .bool rev)])
    (h : ∀ h' p out c, (∀ b o, s.heap.get? b = some o → h'.get? b = some o) → s.heap.get? p = none → h'.get? p = some (seqObj "list" (List.toArray out) c) → out.length = bs.length → EachIs R out (bs.mergeSort (dataLe rev enc)) → Q (.ref p) { s with heap := h' }) :
    wpAny (model prog w) A (call (.builtin "sorted") [.ref it] kw) Q E s := by
  have hlen : its.length ≤ sizeLine := by rw [e.length]; exact hL
  have a1 : argsOk "sorted" ⟨[.ref it], kw⟩ := by
    rcases hkw with ⟨_, rfl⟩ | rfl
    · exact args_sorted1 _
    · exact args_sorted_rev _ _
  refine call_function_entry_kw kind_sorted plain_sorted entry_sorted a1 ?_
  unfold Builtin.«sorted»
  refine wpAny_bind (m := checkCount "sorted" 1 1 _) (wpAny_pure ?_)
  refine wpAny_bind (wpAny_collect_seq it hT ho hc hd (fun h1 k1 => ?_) (by rw [List.size_toArray]; exact hlen))
  refine wpAny_bind (wpAny_newList ?_ hlen)
  have k2 : ∀ b o, h1.get? b = some o → (h1.push (seqObj "list" its.toArray 0)).get? b = some o := fun b o q => Heap.get?_push_of_some _ q
  have hp : (h1.push (seqObj "list" its.toArray 0)).get? h1.objs.size = some (seqObj "list" its.toArray 0) := Heap.get?_push_at rfl rfl
  have big : ∀ b o, s.heap.get? b = some o → b ≠ h1.objs.size := fun b o q => Nat.ne_of_lt (Heap.lt_size (k1 b o q))
  have er' : EachIs (fun v b => ∃ as, Reads (sortingHeap (h1.push (seqObj "list" its.toArray 0)) h1.objs.size its) v (enc b) as) its bs :=
    er.mono fun _ _ ⟨as, r⟩ => ⟨as, PyProof.Rows.Reads.keeps (fun b o q => sortingHeap_old (big b o q) (k2 b o (k1 b o q))) r⟩
  have hnone : s.heap.get? h1.objs.size = none := by
    cases q : s.heap.get? h1.objs.size with
    | none => rfl
    | some u => exact absurd rfl (big _ u q)
  have fin : ∀ κ, EachIs R (sortVals κ rev its its) (bs.mergeSort (dataLe rev enc)) → Q (.ref h1.objs.size) { s with heap := sortedHeap (h1.push (seqObj "list" its.toArray 0)) h1.objs.size its (sortVals κ rev its its).toArray } := fun κ eo => by
    obtain ⟨c, hcx⟩ := sortedHeap_at (out := (sortVals κ rev its its).toArray) hp
    refine h _ _ _ c (fun b o q => ?_) hnone hcx ?_ eo
    · rw [sortedHeap_old (big b o q) (by rw [size_push']; exact Nat.lt_succ_of_lt (Heap.lt_size (k1 b o q)))]
      exact k2 b o (k1 b o q)
    · rw [sortVals_length rev rfl]
      exact e.length
  have S : SortsAt prog w A.in1.in1 { s with heap := sortingHeap (h1.push (seqObj "list" its.toArray 0)) h1.objs.size its } (dataKind (sortingHeap (h1.push (seqObj "list" its.toArray 0)) h1.objs.size its) (bs.map enc)) its :=
    SortsAt.data (s := { s with heap := sortingHeap (h1.push (seqObj "list" its.toArray 0)) h1.objs.size its }) (each_map (R := fun v d => ∃ as, Reads (sortingHeap (h1.push (seqObj "list" its.toArray 0)) h1.objs.size its) v d as) enc er') hal hk (bound_map hu)
  have eo := sortVals_data rev e er' hal
  rcases hkw with ⟨rfl, rfl⟩ | rfl
  · refine wpAny_bind (wpAny_holding (wpAny_call_entry slot_list_sort ⟨_, hp, rfl⟩ entry_list_sort (list_sort_vals (s := { s with heap := h1.push (seqObj "list" its.toArray 0) }) hp S hlen ⟨.none, rfl, ?_⟩) (args_list_sort _)))
    exact wpAny_pure ⟨_, rfl, fin _ eo⟩
  · refine wpAny_bind (wpAny_holding (wpAny_call_entry_kw slot_list_sort ⟨_, hp, rfl⟩ entry_list_sort (list_sort_rev_vals (s := { s with heap := h1.push (seqObj "list" its.toArray 0) }) hp S hlen ⟨.none, rfl, ?_⟩) (args_list_sort_rev _ _)))
    exact wpAny_pure ⟨_, rfl, fin _ eo⟩
end
section
variable {X : Cx} {pins : List (Addr × Obj)} {σ : SS} {H : Hp} {s : Shared} {h' : Heap}
theorem known {P : Program} {w : World} {h : Heap} {a : Addr} {o : HO} (x : ObjOk P w H h a o) (h0 : h.get? a = none) : False := by
  induction o with
  | lst xs => obtain ⟨_, _, _, _, e⟩ := x; rw [h0] at e; cases e
  | tup xs => obtain ⟨_, _, _, _, e, _⟩ := x; rw [h0] at e; cases e
  | dK kvs => obtain ⟨_, _, _, _, _, _, _, e, _⟩ := x; rw [h0] at e; cases e
  | dT kvs => obtain ⟨_, _, _, _, _, _, _, e, _⟩ := x; rw [h0] at e; cases e
  | set S n => obtain ⟨_, _, _, _, e, _⟩ := x; rw [h0] at e; cases e
  | ins C dx fs => obtain ⟨_, _, _, e, _⟩ := x; rw [h0] at e; cases e
  | own _ => obtain ⟨_, e⟩ := x; rw [h0] at e; cases e
  | xd fs => obtain ⟨_, ⟨_, _, _, e, _⟩, _⟩ := x; rw [h0] at e; cases e
  | rng lo hi => obtain ⟨_, _, _, e⟩ := x; rw [h0] at e; cases e
  | frz o u ih => exact ih x.2
  | tbl ps => have e : h.get? a = _ := x; rw [h0] at e; cases e
  | met f y => have e : h.get? a = _ := x; rw [h0] at e; cases e
  | ext φ => obtain ⟨_, ⟨_, e⟩, _⟩ := x; rw [h0] at e; cases e
theorem fresh_none (I : L2.Inv X pins σ H s) {a : Addr} (h0 : s.heap.get? a = none) : H a = none := by
  cases q : H a with
  | none => rfl
  | some o => exact (known (I.hok a o q) h0).elim
theorem laid_none {a : Addr} {o : HO} {t' : Nat} (I : L2.Inv X pins σ H s) (k : ∀ b u, s.heap.get? b = some u → h'.get? b = some u) (h0 : s.heap.get? a = none) (new : ObjOk X.prog X.w (upd H a o) h' a o) :
    L2.Inv X pins σ (upd H a o) { s with heap := h', toks := t' } := by
  have hn := fresh_none I h0
  have ne : ∀ {b : Addr} {u : Obj}, s.heap.get? b = some u → b ≠ a := fun {b u} q z => by rw [z, h0] at q; cases q
  have un : Un X.fs [] H (upd H a o) s.heap h' := {
    keep := fun b u q _ _ _ => k b u q
    slot := fun b u q _ _ _ => ⟨u.slots, k b u q⟩
    free := fun b u q n _ => by rw [upd_ne (ne q)]; exact n
    there := fun b u q _ => ⟨u, k b u q⟩
    tups := fun b xs q => by rw [upd_ne (ne_of_none q hn)]; exact q
    frzs := fun b u xs q => by rw [upd_ne (ne_of_none q hn)]; exact q
    tbls := fun b ps q => ⟨#[], by rw [upd_ne (ne_of_none q hn), q]; simp⟩ }
  refine I.un un fun b u e => ?_
  by_cases hb : b = a
  · subst hb
    rw [upd_same] at e
    cases e
    exact new
  · rw [upd_ne hb] at e
    exact (I.hok b u e).stay (fun c v _ q => k c v q) (fun c q => by rw [upd_ne (ne_of_none q hn)]; exact q) fun c xs q => by rw [upd_ne (ne_of_none q hn)]; exact q
end
open PySem.W in
/-- sorted of a list or a tuple, ys its items: bs tells each item's data and the item -/
def rSrt (K : PySem.W.Frag) (rev : Bool) : V → Hp → VK → Prop := fun x H Q => ∃ (p : Addr) (bs : List (D × V)) (enc : D → PyData), x = .ref p ∧ (SqL K H p (bs.map (·.2)) ∨ SqT K H p (bs.map (·.2))) ∧ (∀ b ∈ bs, Dp K H b.2 (enc b.1)) ∧
  AllAlike (bs.map fun b => enc b.1) ∧ Sortable (bs.map fun b => enc b.1) ∧ (∀ b ∈ bs, (enc b.1).depth ≤ 40) ∧ ∀ l, H l = none → Q (.ref l) (upd H l (.lst ((bs.mergeSort (dataLe rev fun b => enc b.1)).map (·.2))))
theorem each_of : ∀ {bs : List (D × V)} {its : List Value}, Vals (bs.map (·.2)) its → PySem.W.EachIs (fun u b => RelV b.2 u) its bs
  | [], _, h => by cases h; exact .nil
  | b :: bs, _, h => by
    cases h with
    | cons r1 r2 => exact .cons r1 (each_of r2)
theorem each_back : ∀ {bs : List (D × V)} {its : List Value}, PySem.W.EachIs (fun u b => RelV b.2 u) its bs → Vals (bs.map (·.2)) its
  | [], _, h => by cases h; exact .nil
  | b :: bs, _, h => by
    cases h with
    | cons r1 r2 => exact .cons r1 (each_back r2)
theorem each_mem {α β : Type} {R R' : α → β → Prop} : ∀ {xs : List α} {ys : List β}, PySem.W.EachIs R xs ys → (∀ x y, y ∈ ys → R x y → R' x y) → PySem.W.EachIs R' xs ys
  | _, _, .nil, _ => .nil
  | _, _, .cons h t, f => .cons (f _ _ (List.mem_cons_self ..) h) (each_mem t fun x y m r => f x y (List.mem_cons_of_mem _ m) r)
section
variable {X : Cx}
theorem srt_core {pins : List (Addr × Obj)} {s : Shared} {σ : SS} {H : Hp} {x : V} {u : Value} {Q : VK} {rev : Bool} {kw : List (Str × Value)} (hu : X.A.units + 64 < cLine) (I : L2.Inv X pins σ H s) (r : RelV x u)
    (hkw : (rev = false ∧ kw = []) ∨ kw = [(Str.ofString "reverse", .bool rev)]) (h : rSrt X.K rev x H Q) : wpAny (model X.prog X.w) X.A (call (.builtin "sorted") [u] kw) (EP X pins σ Q) X.xe s := by
  obtain ⟨p, bs, enc, rfl, hs, hd, hal, hk, hdep, q⟩ := h
  obtain rfl : u = Value.ref p := r
  have main : ∀ {T : String} {o : Obj} {its : List Value} {n : Nat}, T = "list" ∨ T = "tuple" → s.heap.get? p = some o → o.cls = .type T → o.data = .seq its.toArray n → Vals (bs.map (·.2)) its → bs.length ≤ sizeLine →
      wpAny (model X.prog X.w) X.A (call (.builtin "sorted") [.ref p] kw) (EP X pins σ Q) X.xe s := fun {T o its n} hT ho hc hdt hv hz => by
    have e := each_of hv
    refine sorted_any (enc := fun b : D × V => enc b.1) hT ho hc hdt e (each_mem e fun v b m r => Dp.reads I _ _ _ (hd b m) r) hal hk hz (fun b m => by have := hdep b m; omega) rev hkw fun h' l out c k h0 hl ho2 eo => ?_
    have ob : ObjOk X.prog X.w (upd H l (.lst ((bs.mergeSort (PySem.W.dataLe rev fun b => enc b.1)).map (·.2)))) h' l (.lst ((bs.mergeSort (PySem.W.dataLe rev fun b => enc b.1)).map (·.2))) :=
      ⟨by rw [List.length_map, List.length_mergeSort]; exact hz, out, c, each_back eo, hl⟩
    exact ⟨.ref l, _, laid_none (t' := s.toks) I k h0 ob, rfl, q l (fresh_none I h0)⟩
  rcases hs with hs | hs
  · obtain ⟨its, hv, ⟨o, n, ho, hc, hdn, hdt⟩, hz⟩ := I.list hs
    exact main (.inl rfl) ho hc hdt hv (by simpa using hz)
  · obtain ⟨its, hv, ⟨o, ho, hc, n, hdt⟩, hz⟩ := I.tuple hs
    exact main (.inr rfl) ho hc hdt hv (by simpa using hz)
theorem call_srt (hu : X.A.units + 64 < cLine) : CallR X (.builtin "sorted") (fun xs H Q => ∃ x, xs = [x] ∧ rSrt X.K false x H Q) := by
  intro pins s σ H xs us Q I r h
  obtain ⟨x, rfl, h⟩ := h
  obtain ⟨u, rfl, ru⟩ := vals1 r
  exact srt_core hu I ru (.inl ⟨rfl, rfl⟩) h
theorem call_srtR (hu : X.A.units + 64 < cLine) : CallRK X (.builtin "sorted") ["reverse"] (fun xs zs H Q => ∃ x b, xs = [x] ∧ zs = [.bl b] ∧ rSrt X.K b x H Q) := by
  intro pins s σ H xs zs us ws Q I r rz h
  obtain ⟨x, b, rfl, rfl, h⟩ := h
  obtain ⟨u, rfl, ru⟩ := vals1 r
  obtain ⟨w, rfl, rw'⟩ := vals1 rz
  obtain rfl : w = Value.bool b := rw'
  exact srt_core hu I ru (.inr rfl) h
end
/-! the mirror -/
def sortB (es : List PyData) : Bool := (es.all fun d => es.all fun e => PySem.W.alike d e) && ((es.all fun d => match d with
  | .tuple (_ :: _) => true
  | _ => false) || es.all fun d => match d with
  | .none => false
  | .tuple _ => false
  | _ => true) && es.all fun d => decide (d.depth ≤ 40)
theorem sortB_ok {es : List PyData} (h : sortB es = true) : PySem.W.AllAlike es ∧ PySem.W.Sortable es ∧ ∀ d ∈ es, d.depth ≤ 40 := by
  unfold sortB at h
  rw [Bool.and_eq_true, Bool.and_eq_true, Bool.or_eq_true] at h
  obtain ⟨⟨h1, h2⟩, h3⟩ := h
  refine ⟨fun d hd e he => List.all_eq_true.mp (List.all_eq_true.mp h1 d hd) e he, ?_, fun d hd => of_decide_eq_true (List.all_eq_true.mp h3 d hd)⟩
  rcases h2 with h2 | h2
  · refine .inl fun d hd => ?_
    have q := List.all_eq_true.mp h2 d hd
    split at q
    · exact ⟨_, _, rfl⟩
    · cases q
  · refine .inr fun d hd => ?_
    have q := List.all_eq_true.mp h2 d hd
    split at q
    · cases q
    · cases q
    · rename_i n1 n2
      exact ⟨n1, n2⟩
def encD (st : Sto) (d : D) : PyData := (py st pyDeep d).getD .none
def gSorted (rev : Bool) (xs : List D) : M (List D) := fun st =>
  if (xs.all fun d => (py st pyDeep d).isSome) = true ∧ sortB (xs.map (encD st)) = true then .ok (xs.mergeSort (PySem.W.dataLe rev (encD st))) st else .bad
theorem calm_sorted {rev : Bool} {xs : List D} : Calm (gSorted rev xs) := fun st z st' e => by
  unfold gSorted at e
  split at e <;> cases e
theorem RelL.zip_snd {K : PySem.W.Frag} {m : List Addr} {H : Hp} : ∀ {ds : List D} {vs : List V}, RelL K m H ds vs → (ds.zip vs).map (·.2) = vs ∧ (ds.zip vs).map (·.1) = ds ∧ ∀ b ∈ ds.zip vs, Rel K m H b.1 b.2
  | [], _, h => by cases h; exact ⟨rfl, rfl, fun b hb => nomatch hb⟩
  | d :: ds, _, h => by
    obtain ⟨v, r, rfl, h1, h2⟩ := h
    obtain ⟨e1, e2, e3⟩ := RelL.zip_snd h2
    refine ⟨by rw [List.zip_cons_cons, List.map_cons, e1], by rw [List.zip_cons_cons, List.map_cons, e2], fun b hb => ?_⟩
    rw [List.zip_cons_cons] at hb
    rcases List.mem_cons.mp hb with rfl | hb
    · exact h1
    · exact e3 b hb
theorem RelL.of_all {K : PySem.W.Frag} {m : List Addr} {H : Hp} : ∀ (bs : List (D × V)), (∀ b ∈ bs, Rel K m H b.1 b.2) → RelL K m H (bs.map (·.1)) (bs.map (·.2))
  | [], _ => rfl
  | b :: bs, h => ⟨_, _, rfl, h b (List.mem_cons_self ..), RelL.of_all bs fun c hc => h c (List.mem_cons_of_mem _ hc)⟩
theorem srt_mir {K : PySem.W.Frag} {H0 : Hp} {m : List Addr} {st : Sto} {H : Hp} {rev : Bool} {xs : List D} {vs : List V} {p : Addr} {Q : VK} {E : Exn → Sto → Prop} (S : Sim K m st H) (hs : SqL K H p vs ∨ SqT K H p vs) (r : RelL K m H xs vs)
    (h : (gSorted rev xs st).Wp (PostR K (rT K) m H Q) E) : rSrt K rev (.ref p) H Q := by
  unfold gSorted at h
  split at h
  · rename_i c
    obtain ⟨e1, e2, e3⟩ := r.zip_snd
    obtain ⟨s1, s2, s3⟩ := sortB_ok c.2
    have em : (xs.zip vs).map (fun b => encD st b.1) = xs.map (encD st) := by
      rw [← e2, List.map_map]
      rw [e2]
      rfl
    refine ⟨p, xs.zip vs, encD st, rfl, by rw [e1]; exact hs, fun b hb => ?_, by rw [em]; exact s1, by rw [em]; exact s2, fun b hb => s3 _ ?_, fun l hl => ?_⟩
    · have hx : b.1 ∈ xs := by rw [← e2]; exact List.mem_map.mpr ⟨b, hb, rfl⟩
      have z := List.all_eq_true.mp c.1 b.1 hx
      cases q : py st pyDeep b.1 with
      | none => rw [q] at z; cases z
      | some y =>
        have : encD st b.1 = y := by unfold encD; rw [q]; rfl
        rw [this]
        exact py_ok S _ _ _ _ (e3 b hb) q
    · rw [← em]
      exact List.mem_map.mpr ⟨b, hb, rfl⟩
    · have h : PostR K (rT K) m H Q (xs.mergeSort (PySem.W.dataLe rev (encD st))) st := h
      have key : ((xs.zip vs).mergeSort (PySem.W.dataLe rev fun b => encD st b.1)).map (·.1) = xs.mergeSort (PySem.W.dataLe rev (encD st)) := by
        rw [List.map_mergeSort (r := PySem.W.dataLe rev fun b : D × V => encD st b.1) (s := PySem.W.dataLe rev (encD st)) (f := fun b : D × V => b.1) (fun a _ b _ => by cases rev <;> rfl), e2]
      have rl : RelL K m H (xs.mergeSort (PySem.W.dataLe rev (encD st))) (((xs.zip vs).mergeSort (PySem.W.dataLe rev fun b => encD st b.1)).map (·.2)) := by
        rw [← key]
        exact RelL.of_all _ fun b hb => e3 b ((List.mergeSort_perm _ _).mem_iff.mp hb)
      exact h _ m _ (Step.new hl) (S.new hl) ⟨l, _, rfl, hl, S.fresh hl, upd_same, rl.sub (Step.new hl).sub⟩
  · exact (h : False).elim
end Mir
end part_Mir7
section part_Mir8
set_option maxHeartbeats 1000000
/-! Mir8: sorted in the text, in, stores, parallel stores, count. -/
namespace Mir
open PySem PySem.Spec PyProof.Rows L2

/-! ### sorted -/
def gSortV (d : D) : M (List D) := gItems d >>= gSorted false
section
variable {X : Cx} {K : PySem.W.Frag} {W : WX} {p pos : Pos} {e : Expr}
theorem call1_srtT : Call1 K (rT K) (rT K) (fun xs H Q => ∃ x, xs = [x] ∧ rSrt K false x H Q) (gSorted false) := fun H0 m st H xs v Q S r h => by
  obtain ⟨p, vs, rfl, _, hn, hp, rl⟩ := r
  exact ⟨_, rfl, srt_mir (H0 := H0) S (.inl (SqL.of hp)) rl h⟩
theorem srtV {H0 : Hp} {rev : Bool} {m : List Addr} {st : Sto} {H : Hp} {d : D} {v : V} {Q : VK} (S : Sim K m st H) (r : Rel K m H d v) (h : ((gItems d >>= gSorted rev) st).Wp (PostR K (rT K) m H Q) (fun _ _ => False)) : rSrt K rev v H Q := by
  have h := wp_bind.mp h
  unfold gItems at h
  split at h
  · obtain ⟨p, vs, rfl, t, rl⟩ := r
    exact srt_mir (H0 := H0) S (.inr t) rl (wp_pure.mp h)
  · obtain ⟨p, hp, rfl⟩ := r
    obtain ⟨xs, e, h⟩ := wp_rdL.mp h
    obtain ⟨vs, hs, rl, _⟩ := S.seqAt hp e
    exact srt_mir (H0 := H0) S (.inl hs) rl h
  · exact (h : False).elim
theorem call1_srtV : Call1 K (rD K) (rT K) (fun xs H Q => ∃ x, xs = [x] ∧ rSrt K false x H Q) gSortV := fun H0 m st H d v Q S r h => ⟨_, rfl, srtV (H0 := H0) S r h⟩
theorem calm_sortV (d : D) : Calm (gSortV d) := calm_bind (calm_items d) fun _ => calm_sorted
theorem el_sortT {F : En → M (List D)} (hu : X.A.units + 64 < cLine) (hm : X.mg "sorted" = none) (h : EvL X W e F) (hgl : Gl X "sorted" := by rfl) (he : starEach [e] X.env = (false, eval e X.env) :: starEach [] X.env := by rfl) (hpl : (backTo pos (starEach [] X.env)).any (·.1) = false := by rfl) :
    EvL X W (.Call (.Name "sorted" p) [e] [] pos) (fThen (gSorted false) F) := ev_call1B mono_T (call_srt hu) call1_srtT (fun _ => calm_sorted) hm (by decide +kernel) h hgl (by decide) (by decide) he hpl
theorem el_sortV {F : En → M D} (hu : X.A.units + 64 < cLine) (hm : X.mg "sorted" = none) (h : EvE X W e F) (hgl : Gl X "sorted" := by rfl) (he : starEach [e] X.env = (false, eval e X.env) :: starEach [] X.env := by rfl) (hpl : (backTo pos (starEach [] X.env)).any (·.1) = false := by rfl) :
    EvL X W (.Call (.Name "sorted" p) [e] [] pos) (fThen gSortV F) := ev_call1B mono_T (call_srt hu) call1_srtV calm_sortV hm (by decide +kernel) h hgl (by decide) (by decide) he hpl
/-- sorted(e, reverse=True), e a new list -/
theorem el_sortTR {F : En → M (List D)} {kp bp : Pos} {kk : Nat} (hu : X.A.units + 64 < cLine) (hm : X.mg "sorted" = none) (h : EvL X W e F) (hgl : Gl X "sorted" := by rfl)
    (hs1 : starEach [e] X.env = (false, eval e X.env) :: starEach [] X.env := by rfl)
    (he : backTo pos (starEach [e] X.env) = (false, eval e X.env) :: backTo pos (starEach [] X.env) := by rfl) (hpl : (backTo pos (starEach [e] X.env)).any (·.1) = false := by rfl)
    (hall : (backToKw pos (keywordEach [⟨some "reverse", .Constant (.bool true) kk bp, kp⟩] X.env)).all (·.1.isSome) = true := by rfl) (hnone : (backToKw pos (keywordEach [⟨some "reverse", .Constant (.bool true) kk bp, kp⟩] X.env)).any (·.1.isNone) = false := by rfl)
    (hks : (backToKw pos (keywordEach [⟨some "reverse", .Constant (.bool true) kk bp, kp⟩] X.env)).filterMap (·.1) = [("reverse" : Str)] := by rfl) :
    EvL X W (.Call (.Name "sorted" p) [e] [⟨some "reverse", .Constant (.bool true) kk bp, kp⟩] pos) (fThen (gSorted true) F) :=
  (pe_callBK (call_srtR hu) hgl hm (by decide +kernel) (pa_cons h pa_nil hs1) (pk_cons pe_bl pk_nil) (by decide) (by decide) he hpl hall hnone hks).mirImp fun σ H Q ⟨m, en, st, S, N, q⟩ => by
    refine seq_wp mono_T S N q fun m1 st1 xs v H1 s1 S1 r N1 q1 => ?_
    refine ⟨v, true, rfl, rfl, ?_⟩
    obtain ⟨p, vs, rfl, h0, hn, hp, rl⟩ := r
    exact srt_mir (H0 := H1) (E := fun _ _ => False) S1 (.inl (SqL.of hp)) rl (wp_calm calm_sorted q1)
end

/-! ### in -/
def flatD : D → Bool
  | .non => true
  | .bl _ => true
  | .int _ => true
  | .str _ => true
  | _ => false
def eqF : D → D → Bool
  | .non, .non => true
  | .bl a, .bl b => a == b
  | .bl a, .int b => (if a then 1 else 0) == b
  | .int a, .bl b => a == (if b then 1 else 0)
  | .int a, .int b => a == b
  | .str a, .str b => a == b
  | _, _ => false
def vF : D → V
  | .bl b => .bl b
  | .int i => .int i
  | .str x => .str x
  | _ => .non
section
variable {K : PySem.W.Frag} {m : List Addr} {H : Hp}
theorem flat_rel {d : D} {v : V} (f : flatD d = true) (r : Rel K m H d v) : v = vF d ∧ flatV v = true := by
  cases d with
  | non => cases (r : _ = _); exact ⟨rfl, rfl⟩
  | bl b => cases (r : _ = _); exact ⟨rfl, rfl⟩
  | int b => cases (r : _ = _); exact ⟨rfl, rfl⟩
  | str b => cases (r : _ = _); exact ⟨rfl, rfl⟩
  | tup xs => cases f
  | ref i => cases f
theorem eqF_ok {a b : D} (fa : flatD a = true) (fb : flatD b = true) : eqV (vF a) (vF b) = eqF a b := by
  cases a with
  | tup xs => cases fa
  | ref i => cases fa
  | _ => cases b <;> first
    | rfl
    | cases fb
theorem flat_all : ∀ {ds : List D} {vs : List V}, ds.all flatD = true → RelL K m H ds vs → vs = ds.map vF ∧ vs.all flatV = true
  | [], _, _, r => by cases r; exact ⟨rfl, rfl⟩
  | d :: ds, _, f, r => by
    obtain ⟨v, rest, rfl, r1, r2⟩ := r
    rw [List.all_cons, Bool.and_eq_true] at f
    obtain ⟨rfl, f1⟩ := flat_rel f.1 r1
    obtain ⟨rfl, f2⟩ := flat_all f.2 r2
    exact ⟨rfl, by rw [List.all_cons, f1, f2]; rfl⟩
end
def lookE (kvs : List (Key × D)) (k : Key) : Option D := (kvs.find? fun kv => decide (kv.1 = k)).map (·.2)
def inTup (f : Bool → Bool) (x : D) (ys : List D) : M D := if flatD x = true ∧ ys.all flatD = true then pure (.bl (f (ys.any fun y => eqF y x))) else bad
def inRef (f : Bool → Bool) (x : D) (j : Nat) : M D := fun st => match st[j]? with
  | some (.dct kvs) => (match keyD x with
    | some k => .ok (.bl (f (lookE kvs k).isSome)) st
    | none => .bad)
  | _ => match py st pyDeep x, py st pyDeep (.ref j) with
    | some d, some (.list ds) => if SeqAt.shaped d = true ∧ SeqAt.shaped (.list ds) = true then .ok (.bl (f (ds.any fun z => PyData.eqv z d))) st else .bad
    | _, _ => .bad
def gIn (f : Bool → Bool) (x y : D) : M D := match y with
  | .tup ys => inTup f x ys
  | .ref j => inRef f x j
  | _ => bad
theorem calm_in (f : Bool → Bool) (x y : D) : Calm (gIn f x y) := by
  unfold gIn
  split
  · unfold inTup
    exact calm_ite calm_pure calm_bad
  · intro st z st' e
    unfold inRef at e
    split at e
    · split at e <;> cases e
    · split at e
      · split at e <;> cases e
      · cases e
  · exact calm_bad
def rInA (K : PySem.W.Frag) (f : Bool → Bool) : R2 := fun x y H Q => (∃ p xs, y = .ref p ∧ SqT K H p xs ∧ flatV x = true ∧ xs.all flatV = true ∧ Q (.bl (f (inV x xs))) H) ∨
  (∃ d ds, Dp K H x d ∧ Dp K H y (.list ds) ∧ SeqAt.shaped d = true ∧ SeqAt.shaped (.list ds) = true ∧ Q (.bl (f (ds.any fun z => PyData.eqv z d))) H) ∨ ∃ a o, y = .ref a ∧ DGet H a x o ∧ Q (.bl (f o.isSome)) H
section
variable {X : Cx}
theorem op_inA (hu : X.A.units + 65 < cLine) : OpR X (compareOp .In) (rInA X.K id) := by
  intro pins s σ H x y v u Q I rx ry h
  rcases h with ⟨p, xs, rfl, ht, f1, f2, q⟩ | ⟨d, ds, h1, h2, h3, h4, q⟩ | ⟨a, o, rfl, g, q⟩
  · exact op_in_seq pins s σ H _ _ v u Q I rx ry ⟨p, xs, rfl, .inr ht, f1, f2, q⟩
  · exact op_inD hu pins s σ H _ _ v u Q I rx ry ⟨d, ds, h1, h2, h3, h4, q⟩
  · obtain rfl : u = Value.ref a := ry
    exact d_in (by omega) I g rx fun s' J => ⟨.bl o.isSome, H, J, rfl, q⟩
theorem op_notInA (hu : X.A.units + 65 < cLine) : OpR X (compareOp .NotIn) (rInA X.K not) := by
  intro pins s σ H x y v u Q I rx ry h
  rcases h with ⟨p, xs, rfl, ht, f1, f2, q⟩ | ⟨d, ds, h1, h2, h3, h4, q⟩ | ⟨a, o, rfl, g, q⟩
  · exact op_notIn_seq pins s σ H _ _ v u Q I rx ry ⟨p, xs, rfl, .inr ht, f1, f2, q⟩
  · exact op_notInD hu pins s σ H _ _ v u Q I rx ry ⟨d, ds, h1, h2, h3, h4, q⟩
  · obtain rfl : u = Value.ref a := ry
    exact d_notIn (by omega) I g rx fun s' J => ⟨.bl (!o.isSome), H, J, rfl, q⟩
end
section
variable {K : PySem.W.Frag} {m : List Addr} {H : Hp}
theorem lookE_rel (k : Key) : ∀ {kvs : List (Key × D)} {vs : List (Key × V)}, RelKV K m H kvs vs → (lookE kvs k).isSome = (valV vs k).isSome
  | [], _, r => by cases r; rfl
  | d :: ds, _, r => by
    obtain ⟨v, rest, rfl, r1, r2⟩ := r
    have ih := lookE_rel k r2
    unfold lookE valV at ih ⊢
    by_cases e : d.1 = k
    · simp [List.find?_cons, e]
    · simp only [List.find?_cons, e, decide_false]
      exact ih
theorem inV_any {d : D} (fd : flatD d = true) : ∀ {ds : List D}, ds.all flatD = true → inV (vF d) (ds.map vF) = ds.any fun y => eqF y d
  | [], _ => rfl
  | y :: ds, f => by
    rw [List.all_cons, Bool.and_eq_true] at f
    have ih : (ds.map vF).any (fun y => eqV y (vF d)) = ds.any fun y => eqF y d := inV_any fd f.2
    show ((y :: ds).map vF).any (fun y => eqV y (vF d)) = _
    rw [List.map_cons, List.any_cons, List.any_cons, ih, eqF_ok f.1 fd]
theorem opm_in (f : Bool → Bool) : OpM K (rInA K f) (gIn f) := fun m st H dx dy x y Q S rx ry h => by
  unfold gIn at h
  split at h
  · rename_i ys
    unfold inTup at h
    split at h
    · rename_i c
      obtain ⟨p, vs, rfl, t, rl⟩ := ry
      obtain ⟨rfl, f1⟩ := flat_rel c.1 rx
      obtain ⟨rfl, f2⟩ := flat_all c.2 rl
      refine .inl ⟨p, _, rfl, t, f1, f2, ?_⟩
      rw [inV_any c.1 c.2]
      exact post_val h S rfl
    · exact (h : False).elim
  · rename_i j
    unfold inRef at h
    split at h
    · rename_i kvs e
      split at h
      · rename_i k hk
        obtain ⟨p, hp, rfl⟩ := ry
        obtain ⟨vs, hd, rk⟩ := S.ob _ _ _ hp e
        have hkk := keyD_rel hk rx
        subst hkk
        refine .inr (.inr ⟨p, _, rfl, DGet.k hd, ?_⟩)
        rw [← lookE_rel k rk]
        exact post_val h S rfl
      · exact (h : False).elim
    · split at h
      · rename_i d ds e1 e2
        split at h
        · rename_i c
          exact .inr (.inl ⟨d, ds, py_ok S _ _ _ _ rx e1, py_ok S _ _ _ _ ry e2, c.1, c.2, post_val h S rfl⟩)
        · exact (h : False).elim
      · exact (h : False).elim
  · exact (h : False).elim
end

/-! ### o[i] = v -/
def setOb (j : Nat) (i d : D) : M Unit := fun st => match st[j]? with
  | some (.lst xs) => (match i with
    | .int k => (match ixN xs.length k with
      | some n => .ok () (st.set j (.lst (xs.set n d)))
      | none => .bad)
    | _ => .bad)
  | some (.dct kvs) => (match keyD i with
    | some k => if kvs.length < sizeLine then .ok () (st.set j (.dct (putD kvs k d))) else .bad
    | none => .bad)
  | _ => .bad
def gSet (o i d : D) : M Unit := match o with
  | .ref j => setOb j i d
  | _ => bad
def gtSub (Fo Fi : En → M D) : D → En → M En := fun d en => noErr (Fo en) >>= fun o => noErr (Fi en) >>= fun i => gSet o i d >>= fun _ => pure en
theorem _root_.L2.PSet.mirOr {X : Cx} {t t' : TSet} (h : PSet X t) (h' : PSet X t') : PSet X (fun o i v H Q => t o i v H Q ∨ t' o i v H Q) :=
  fun pins s σ H o i v ov iv u Q I ro ri rv q => q.elim (fun q => h pins s σ H o i v ov iv u Q I ro ri rv q) fun q => h' pins s σ H o i v ov iv u Q I ro ri rv q
section
variable {X : Cx} {W : WX} {pos : Pos}
theorem set_mir {K : PySem.W.Frag} {m : List Addr} {st : Sto} {H : Hp} {do_ di d : D} {o i v : V} {E : Exn → Sto → Prop} {P : Sto → Prop} {Q : Hp → Prop} (S : Sim K m st H) (ro : Rel K m H do_ o) (ri : Rel K m H di i) (rv : Rel K m H d v)
    (h : (gSet do_ di d st).Wp (fun _ st' => P st') E) (k : ∀ st' H', Step K m H m H' → Sim K m st' H' → P st' → Q H') (hE : ∀ x st, ¬ E x st) : rSetL o i v H Q ∨ rSetD o i v H Q := by
  unfold gSet at h
  split at h
  · obtain ⟨p, hp, rfl⟩ := ro
    unfold setOb at h
    split at h
    · rename_i xs e
      split at h
      · rename_i n
        cases (ri : i = _)
        split at h
        · rename_i j hj
          obtain ⟨vs, hl, rl⟩ := S.ob _ _ _ hp e
          have s := Step.write (o := .lst (vs.set j v)) S (List.mem_of_getElem? hp)
          exact .inl ⟨p, vs, n, j, rfl, rfl, hl, by rw [← RelL.length rl]; exact hj, k _ _ s (S.write (o := .lst (xs.set j d)) hp ⟨_, upd_same, RelL.sub s.sub (rl.set rv j)⟩) h⟩
        · exact (h : False).elim
      · exact (h : False).elim
    · rename_i kvs e
      split at h
      · rename_i kk hk
        split at h
        · rename_i hz
          obtain ⟨vs, hl, rl⟩ := S.ob _ _ _ hp e
          have hi := keyD_rel hk ri
          have s := Step.write (o := .dK (putK vs kk v)) S (List.mem_of_getElem? hp)
          refine .inr ⟨p, _, rfl, ?_, k _ _ s (S.write (o := .dct (putD kvs kk d)) hp ⟨_, upd_same, RelKV.sub s.sub (putD_rel rv rl)⟩) h⟩
          rw [hi]
          exact DPut.k hl (by rw [← RelKV.length rl]; exact hz)
        · exact (h : False).elim
      · exact (h : False).elim
    · exact (h : False).elim
  · exact (h : False).elim
theorem eg_sub {o i : Expr} {Fo Fi : En → M D} (hu : X.A.units + 1 < cLine) (ho : EvE X W o Fo) (hi : EvE X W i Fi)
    (ha : ∀ v, assign (.Subscript o i pos) X.env v = (do
      let ov ← holding [v] (eval o X.env)
      let iv ← holding [v, ov] (eval i X.env)
      standAt pos
      holding [v, ov, iv] (setItem ov iv v)
      release [v, ov, iv] []) := by intro _; rfl) : EvG X (.Subscript o i pos) (gtSub Fo Fi) :=
  (pg_sub ho hi (set_list.mirOr (set_dict hu)) ha).mirImp fun v σ H Q ⟨m, en, st, d, S, N, r, q⟩ => by
    refine ⟨m, en, st, S, N, wp_any (wp_mono (wp_noErr.mp (wp_bind.mp q)) (fun o st1 q1 x m1 H1 s1 S1 r1 => ?_) fun _ _ z => z)⟩
    refine ⟨m1, en, st1, S1, N.sub s1.sub, wp_any (wp_mono (wp_noErr.mp (wp_bind.mp q1)) (fun i st2 q2 y m2 H2 s2 S2 r2 => ?_) fun _ _ z => z)⟩
    refine set_mir S2 (Rel.sub s2.sub r1) r2 (Rel.sub (s1.trans s2).sub r) ((wp_bind (x := gSet o i d) (f := fun _ => (Pure.pure en : M En))).mp q2) (fun st' H' s3 S3 q3 => ?_) fun _ _ z => z
    exact (wp_pure.mp q3) σ m2 H' ((s1.trans s2).trans s3) S3 (N.sub ((s1.trans s2).trans s3).sub)
/-! ### x, y = a, b -/
def sPar (i j : Nat) (F : En → M (List D)) : FS := fun en => lift (F en) (fun ds en st => match ds with
  | [a, b] => .ok .nx ((en.set i (some a)).set j (some b)) st
  | _ => .bad) en
theorem es_par {i j : Nat} {x y : Str} {a b : Expr} {F : En → M (List D)} {px py pt pt2 : Pos} {kt k2 : Nat} (hc : X.calm = true) (hN : X.N.Nodup) (hi : X.N[i]? = some x) (hj : X.N[j]? = some y) (hij : i ≠ j)
    (hx : X.env.scope.names.lookup x = some .local) (hy : X.env.scope.names.lookup y = some .local) (ha : EvA X W [a, b] F)
    (hw : swappedStores [.Tuple [.Name x px, .Name y py] kt pt] (.Tuple [a, b] k2 pt2) X.env = pure (some [x, y]) := by rfl)
    (hs : swapsWithSole [.Tuple [.Name x px, .Name y py] kt pt] (.Tuple [a, b] k2 pt2) pos.line X.env = pure false := by rfl) :
    EvS X W (.Assign [.Tuple [.Name x px, .Name y py] kt pt] (.Tuple [a, b] k2 pt2) pos) (sPar i j F) :=
  (ps_par hc hN hi hj hij hx hy ha hw hs).mirImp fun D σ H ⟨m, en, st, S, N, q⟩ => lift_wp (R := rL X.K) S N q fun m1 st1 ds vs H1 s1 S1 r N1 q1 => by
    split at q1
    · obtain ⟨v, r', rfl, rv, w, r'', rfl, rw', re⟩ := r
      cases re
      exact ⟨v, w, rfl, (okS q1) _ m1 H1 .refl S1 ((N1.set rv i).set rw' j)⟩
    · exact (q1 : False).elim
end

/-! ### list.count of ints -/
def intsD : List D → Option (List Int)
  | [] => some []
  | .int i :: r => (intsD r).map (i :: ·)
  | _ :: _ => none
theorem intsD_rel {K : PySem.W.Frag} {m : List Addr} {H : Hp} : ∀ {ds : List D} {vs : List V} {ns : List Int}, intsD ds = some ns → RelL K m H ds vs → vs = ns.map V.int
  | [], _, _, e, r => by cases e; exact r
  | .int i :: ds, _, ns, e, r => by
    obtain ⟨v, rest, rfl, r1, r2⟩ := r
    cases (r1 : v = _)
    unfold intsD at e
    cases q : intsD ds with
    | none => rw [q] at e; cases e
    | some ms => rw [q] at e; cases e; rw [intsD_rel q r2]; rfl
  | .non :: _, _, _, e, _ => nomatch e
  | .bl _ :: _, _, _, e, _ => nomatch e
  | .str _ :: _, _, _, e, _ => nomatch e
  | .tup _ :: _, _, _, e, _ => nomatch e
  | .ref _ :: _, _, _, e, _ => nomatch e
def cntL (xs : List D) (k : Int) : M D := match intsD xs with
  | some ns => pure (.int (ns.count k : Nat))
  | none => bad
def gCount : D → List D → M D
  | .ref i, [.int k] => rdL i >>= fun xs => cntL xs k
  | _, _ => bad
section
variable {X : Cx} {K : PySem.W.Frag} {W : WX} {o e : Expr} {apos cpos pos : Pos} {Fo : En → M D} {Fa : En → M (List D)}
theorem methm_count : MethM K (rCntI K) gCount := fun m st H dx ds x vs Q S rx rl h => by
  unfold gCount at h
  split at h
  · obtain ⟨p, hp, rfl⟩ := rx
    obtain ⟨v, r', rfl, rv, re⟩ := rl
    cases re
    cases (rv : v = _)
    obtain ⟨xs, e, q⟩ := wp_rdL.mp (wp_bind.mp h)
    obtain ⟨us, hs, ru, _⟩ := S.seqAt hp e
    unfold cntL at q
    cases hn : intsD xs with
    | none => rw [hn] at q; exact (q : False).elim
    | some ns =>
      rw [hn] at q
      rw [intsD_rel hn ru] at hs
      exact ⟨p, ns, _, rfl, rfl, hs, post_val q S rfl⟩
  · exact (h : False).elim
theorem calm_count (x : D) (ds : List D) : Calm (gCount x ds) := by
  unfold gCount
  split
  · refine calm_bind calm_rdL fun xs => ?_
    unfold cntL
    split
    · exact calm_pure
    · exact calm_bad
  · exact calm_bad
theorem ev_lcount (ho : EvE X W o Fo) (ha : EvA X W [e] Fa) (hbase : attributeBase o "count" X.env (eval o X.env) = eval o X.env := by rfl)
    (hfew : ((backTo cpos (starEach [e] X.env)).all (fun x => !x.1) && (backToKw cpos (keywordEach [] X.env)).all (fun x => x.1.isSome)
      && decide ([e].length + ([] : List Keyword).length + (if ([] : List Keyword).isEmpty then 0 else 1) < 30)) = true := by rfl)
    (hline : (apos.endLine == cpos.line) = true := by rfl) (hs : starEach [e] X.env = (false, eval e X.env) :: starEach [] X.env := by rfl) (hplain : (backTo cpos (starEach [] X.env)).any (·.1) = false := by rfl) :
    EvE X W (.Call (.Attribute o "count" apos) [e] [] cpos) (fBm "list" gCount Fo Fa) :=
  ev_bm PySem.F.plainAttrs_list PySem.F.slot_list_count PySem.F.type_list_count mt_lcount methm_count calm_count ho ha hbase hfew hline hs hplain
end
end Mir
end part_Mir8
section part_Mir9
set_option maxHeartbeats 1000000
/-! Mir9: t[::-1]; a def that returns tuple([..]), the count of it. -/
namespace Mir
open PySem PySem.Spec PyProof.Rows L2

section
open PySem.W PySem.Calls
variable {prog : Program} {w : World} {A : Around} {E : Value → Shared → Prop} {s : Shared}
theorem adjust_back (n : Nat) : Builtin.Slice.sliceAdjust none none (-1) (n : Int) = ((n : Int) - 1, -1) := by
  first
  | rfl
  | simp [Builtin.Slice.sliceAdjust]
theorem places_back (n : Nat) : Builtin.Slice.slicePlaces ((n : Int) - 1) (-1) (-1) = n := by
  unfold Builtin.Slice.slicePlaces
  have h1 : ¬ ((-1 : Int) > 0) := by omega
  have h2 : -(-1 : Int) = 1 := by omega
  simp only [h1, if_false, h2, Int.ediv_one]
  split <;> omega
theorem pick_back (xs : Array Value) : ((List.range xs.size).filterMap fun (k : Nat) => xs[(((xs.size : Int) - 1) + (k : Int) * (-1)).toNat]?).toArray = xs.toList.reverse.toArray := by
  rw [← krv_pick xs]
  unfold slicePick
  rw [krv_bounds]
  show _ = ((sliceRange ((xs.size : Int) - 1) (-1) (-1)).filterMap (xs[·]?)).toArray
  rw [krv_sliceRange, List.filterMap_map]
  congr 1
  have : ∀ l : List Nat, (∀ k ∈ l, k < xs.size) → l.filterMap (fun (k : Nat) => xs[(((xs.size : Int) - 1) + (k : Int) * (-1)).toNat]?) = l.filterMap ((fun x => xs[x]?) ∘ fun k => xs.size - 1 - k) := by
    intro l
    induction l with
    | nil => intro _; rfl
    | cons k l ih =>
      intro h
      have hk := h k (List.mem_cons_self ..)
      have e : (((xs.size : Int) - 1) + (k : Int) * (-1)).toNat = xs.size - 1 - k := by omega
      have ih' := ih fun j hj => h j (List.mem_cons_of_mem _ hj)
      rw [List.filterMap_cons, List.filterMap_cons, ih', e]
      rfl
  exact this _ fun k hk => List.mem_range.mp hk
theorem tuple_back {t sl : Addr} {items : Array Value} {vs : Value} {Q : Value → Shared → Prop} (ht : IsTup s.heap t items) (hs : s.heap.IsSliceOf sl .none .none vs) (ps : IsPart vs (some (-1)))
    (h : Q (.ref s.heap.objs.size) { s with heap := s.heap.push { cls := .type "tuple", data := .seq items.toList.reverse.toArray } }) (hsz : items.size ≤ sizeLine) : wpAny (model prog w) A (getItem (.ref t) (.ref sl)) Q E s := by
  have htake : sizeOk (.seq items.toList.reverse.toArray) := by
    show items.toList.reverse.toArray.size ≤ sizeLine
    rw [List.size_toArray, List.length_reverse, Array.length_toList]
    exact hsz
  obtain ⟨os, hos, hcs, hds⟩ := id hs
  have hTs : s.TypeIs (.ref sl) "slice" := ⟨os, hos, hcs⟩
  unfold getItem
  try with_reducible refine wpAny_holding ?_
  first | refine wpAny_bind (wpAny_pure ?_) | skip
  refine wpAny_bind (wpAny_sequenceKey ht.typeIs (by decide) ?_)
  refine wpAny_bind (wpAny_callSpecial?_slot (name := Str.ofString "__getitem__") ht.typeIs PyProof.Rows.slot_tuple_getitem (wpAny_call_entry PyProof.Rows.slot_tuple_getitem ht.typeIs entry_tuple_getitem ?_ (args_tuple_getitem _ _)))
  show wpAny _ _ (Builtin.Tuple.tupleItemsOf (.ref t) >>= _) _ _ s
  refine wpAny_bind (tupleItemsOf_ ht (wpAny_bind (wpAny_typeOf hTs ?_)))
  rw [if_pos (by decide)]
  refine wpAny_bind (m := Builtin.Slice.sliceApplied (.ref sl) (pure (items.size : Int))) ?_
  unfold Builtin.Slice.sliceApplied Builtin.Slice.sliceFields
  refine wpAny_bind (wpAny_bind (wpAny_field hos hds (x := .none) rfl (wpAny_bind (wpAny_field hos hds (x := .none) rfl (wpAny_bind (wpAny_field hos hds (x := vs) rfl (wpAny_pure ?_)))))))
  refine wpAny_bind (HT.slicePart_ ps ?_)
  show wpAny _ _ (if ((-1 : Int) == 0) = true then _ else _) _ _ s
  rw [if_neg (by decide)]
  refine wpAny_bind (HT.slicePart_ .none (wpAny_bind (HT.slicePart_ .none (wpAny_bind (wpAny_pure ?_)))))
  show wpAny _ _ (match Builtin.Slice.sliceAdjust none none (-1) (items.size : Int) with | (lo, hi) => pure (lo, (-1 : Int), Builtin.Slice.slicePlaces lo hi (-1))) _ _ s
  rw [adjust_back]
  show wpAny _ _ (pure ((items.size : Int) - 1, (-1 : Int), Builtin.Slice.slicePlaces ((items.size : Int) - 1) (-1) (-1))) _ _ s
  rw [places_back]
  refine wpAny_pure ?_
  have hno : ¬ (((((items.size : Int) - 1) == 0 && (-1 : Int) == 1 && items.size == items.size) = true)) := by simp
  show wpAny _ _ (if (((items.size : Int) - 1) == 0 && (-1 : Int) == 1 && items.size == items.size) = true then _ else _) _ _ s
  rw [if_neg hno, pick_back]
  first
    | exact wpAny_bind (m := Builtin.Tuple.tupleExact _) (wpAny_newObj_type (wpAny_pure ⟨_, rfl, wpAny_pure h⟩) htake)
    | exact wpAny_bind (m := Builtin.Tuple.tupleExact _) (wpAny_newObj_type (wpAny_bind (wpAny_pure (wpAny_pure ⟨_, rfl, wpAny_pure h⟩))) htake)
    | exact wpAny_bind (wpAny_bind (m := Builtin.Tuple.tupleExact _) (wpAny_newObj_type (wpAny_pure (wpAny_pure ⟨_, rfl, wpAny_pure h⟩)) htake))
    | exact wpAny_bind (wpAny_bind (m := Builtin.Tuple.tupleExact _) (wpAny_newObj_type (wpAny_pure ⟨_, rfl, wpAny_pure h⟩) htake))
end
def gRevT : D → M D
  | .tup xs => pure (.tup xs.reverse)
  | _ => bad
section
variable {X : Cx} {W : WX}
theorem ev_revT {e : Expr} {F : En → M D} {k : Nat} {p1 p2 p3 pos : Pos} (he : EvE X W e F) :
    EvE X W (.Subscript e (.Slice none none (some (.UnaryOp .USub (.Constant (.int 1) k p1) p2)) p3) pos) (fThen gRevT F) := by
  refine ⟨fun pins s σ H Q I h => ?_⟩
  obtain ⟨m, en, st, S, N, q⟩ := h
  have h2 : tG X.K X.mg (rD X.K) W F σ H (fun x H1 => ∃ a xs, x = .ref a ∧ SqT X.K H1 a xs ∧ ∀ p, H1 p = none → Q (.ref p) (upd H1 p (.tup xs.reverse))) := by
    refine seq_wp mono_D S N q fun m1 st1 d x H1 s1 S1 r N1 q1 => ?_
    unfold gRevT at q1
    split at q1
    · obtain ⟨p, vs, rfl, t, rl⟩ := r
      exact ⟨p, vs, rfl, t, fun p2 hp2 => post_tup (wp_pure.mp q1) S1 rl.reverse hp2⟩
    · exact (q1 : False).elim
  refine Subscript_ (thn (he.run pins s σ H _ I h2) fun v s1 ⟨x, H1, I1, r1, q1⟩ => ?_)
  obtain ⟨a, xs, ex, hx, q⟩ := q1
  subst ex
  cases r1
  have hst : PO X (some (.UnaryOp .USub (.Constant (.int 1) k p1) p2)) (tPart (tUn (rU fun i => .int (-i)) (tC (.int 1)))) := po_some (pe_un un_neg pe_int)
  refine wpAny_Slice (thn (po_none.run pins s1 σ H1 (fun o H2 => o = none ∧ H2 = H1) I1 ⟨rfl, rfl⟩) fun vl s2 ⟨l, H2, I2, pl, el, e2⟩ => ?_)
  subst el e2
  refine thn (po_none.run pins s2 σ H2 (fun o H3 => o = none ∧ H3 = H2) I2 ⟨rfl, rfl⟩) fun vu s3 ⟨u, H3, I3, pu, eu, e3⟩ => ?_
  subst eu e3
  refine thn (hst.run pins s3 σ H3 (fun o H4 => o = some (-1) ∧ H4 = H3) I3 ⟨1, rfl, -1, rfl, rfl, rfl⟩) fun vs s4 ⟨o, H4, I4, ps, eo, e4⟩ => ?_
  subst eo e4
  cases pl
  cases pu
  have I5 : L2.Inv X pins σ H4 { s4 with heap := s4.heap.push { cls := .type "slice", data := .fields #[.none, .none, vs] } } := I4.kept (t' := s4.toks) fun b ob q => Heap.get?_push_of_some _ q
  obtain ⟨its, r, ht, hz⟩ := I5.tuple hx
  show wpAny (model X.prog X.w) X.A (subscriptTail e (.Slice none none (some (.UnaryOp .USub (.Constant (.int 1) k p1) p2)) p3) (.ref a) (.ref s4.heap.objs.size)) (EP X pins σ Q) X.xe { s4 with heap := s4.heap.push { cls := .type "slice", data := .fields #[.none, .none, vs] } }
  refine tail_any (ops := [.ref a, .ref s4.heap.objs.size]) ht.typeIs (PyProof.Rows.slot_tuple_getitem.lookup) ?_ (by with_unfolding_all rfl)
  refine tuple_back ht (Heap.IsSliceOf.new _ .none .none vs) ps ?_ (by rw [List.size_toArray, ← r.length]; exact hz)
  refine ⟨.ref _, _, I5.laid (t' := s4.toks) (o := .tup xs.reverse) (fun b ob q => Heap.get?_push_of_some _ q) (Nat.le_refl _) ?_, rfl, q _ (I5.hok.fresh (Nat.le_refl _))⟩
  exact ⟨by rw [List.length_reverse]; exact hz, _, r.reverse, IsTup.new _ _⟩
end
end Mir
end part_Mir9
section part_Mir10
set_option maxHeartbeats 1000000
/-! Mir10: a def that returns tuple([..]); the count of what it returns. -/
namespace Mir
open PySem PySem.Spec PyProof.Rows L2

/-- a tuple that is known to have no dict -/
def TZ (H : Hp) (p : Addr) (vs : List V) : Prop := ∃ o, H p = some (.frz o (.tup vs)) ∧ o.dict = none
theorem TZ.sq {K : PySem.W.Frag} {H : Hp} {p : Addr} {vs : List V} (t : TZ H p vs) : SqT K H p vs := by
  obtain ⟨o, e, _⟩ := t
  exact .inl (.inr ⟨o, e⟩)
def rZ (K : PySem.W.Frag) : RR (List D) V := fun _ m H xs v => ∃ p vs, v = .ref p ∧ TZ H p vs ∧ RelL K m H xs vs
theorem mono_Z {K : PySem.W.Frag} : RMono K (rZ K) := fun _ _ _ _ _ _ _ _ _ h => h
section
variable {X : Cx} {W : WX} {p pos : Pos} {e : Expr}
theorem call_tupZ : CallR X (.type "tuple") (fun xs H Q => ∃ p ys, xs = [.ref p] ∧ SqL X.K H p ys ∧ ∀ l o, H l = none → o.dict = none → Q (.ref l) (upd H l (.frz o (.tup ys)))) := by
  intro pins s σ H xs us Q I r h
  obtain ⟨p, ys, rfl, hq, q⟩ := h
  obtain ⟨u, rfl, rx⟩ := vals1 r
  cases rx
  obtain ⟨its, r', pl, hz⟩ := I.list hq
  have hlen := r'.length
  refine call_tuple_list pl.isList (fun h' kp => ?_) (by rw [List.size_toArray, ← hlen]; exact hz)
  have I1 : L2.Inv X pins σ H { s with heap := h' } := I.kept (t' := s.toks) kp
  have ob : ObjOk X.prog X.w (upd H h'.objs.size (.frz { cls := .type "tuple", data := .seq its.toArray } (.tup ys))) (h'.push { cls := .type "tuple", data := .seq its.toArray }) h'.objs.size (.frz { cls := .type "tuple", data := .seq its.toArray } (.tup ys)) :=
    ⟨Heap.get?_push_size _ rfl, hz, its, r', IsTup.new _ _⟩
  exact ⟨.ref h'.objs.size, _, I1.laid (t' := s.toks) (fun b o e => Heap.get?_push_of_some _ e) (Nat.le_refl _) ob, rfl, q _ _ (I1.hok.fresh (Nat.le_refl _)) rfl⟩
abbrev EvZ (X : Cx) (W : WX) (e : Expr) (F : En → M (List D)) : Prop := PE X e (tG X.K X.mg (rZ X.K) W F)
theorem ez_tup {F : En → M (List D)} (hm : X.mg "tuple" = none) (h : EvL X W e F) (hgl : Gl X "tuple" := by rfl) (he : starEach [e] X.env = (false, eval e X.env) :: starEach [] X.env := by rfl) (hpl : (backTo pos (starEach [] X.env)).any (·.1) = false := by rfl) :
    EvZ X W (.Call (.Name "tuple" p) [e] [] pos) (fThen (fun xs => pure xs) F) :=
  ev_call1Ty mono_Z call_tupZ (fun H0 m st H xs v Q S r h => by
    obtain ⟨p, vs, rfl, _, hn, hp, rl⟩ := r
    refine ⟨p, vs, rfl, SqL.of hp, fun l o hl ho => ?_⟩
    exact (wp_pure.mp h) _ m _ (Step.new hl) (S.new hl) ⟨l, vs, rfl, ⟨o, upd_same, ho⟩, rl.sub (Step.new hl).sub⟩) (fun _ => calm_pure) hm (by decide +kernel) h hgl (by decide) (by decide) he hpl
end
def spZ (K : PySem.W.Frag) (mg : Str → Option Value) (a : Nat) (f : List D → M (List D)) : Sp := fun vs H Q E =>
  ∃ m ds st, Sim K m st H ∧ RelL K m H ds vs ∧ ds.length = a ∧ (f ds st).Wp (PostR K (rZ K) m H Q) (PostX K mg m H E)
abbrev FnZ (P : Program) (w : World) (K : PySem.W.Frag) (mg : Str → Option Value) (base : Heap) (k : Nat) (f : Addr) (fd : FuncData) (ps : List Str) (g : List D → M (List D)) : Prop := FnOk P w K mg base (L2.CX P w) k f fd ps (spZ K mg ps.length g)
def fnZ (n : Nat) (F : En → M (List D)) : List D → M (List D) := fun ds => F (ds.map some ++ List.replicate (n - ds.length) none)
section
variable {P : Program} {w : World} {K : PySem.W.Frag} {mg : Str → Option Value} {base : Heap} {x qual : Str} {params : Arguments} {scope : Scope} {dvs : List V} {kws : List (Str × V)} {f : Addr} {fd : FuncData} {e : Expr} {rp : Pos}
theorem fn_mirZ {N ps : List Str} {k : Nat} {B : En → M (List D)} (F : FunD K x qual params [.Return (some e) rp] scope dvs kws f fd) (S : FnScope N ps scope)
    (hb : ∀ (cdv : Value) (A : Around) (outer : List Env) (s : Shared) (H : Hp) (E : XK), Room k (A.deeper (envOfC qual scope s.heap.objs.size f cdv)) →
      Takes (cxOf (L2.CX P w) P w K mg base N qual scope f cdv A outer s H E) (fun cls d _ H => E cls d H) →
      PassesOwn (model P w) (cxOf (L2.CX P w) P w K mg base N qual scope f cdv A outer s H E).A (cxOf (L2.CX P w) P w K mg base N qual scope f cdv A outer s H E).env (cxOf (L2.CX P w) P w K mg base N qual scope f cdv A outer s H E).xe →
      EvZ (cxOf (L2.CX P w) P w K mg base N qual scope f cdv A outer s H E) (fun cls d _ H => E cls d H) e B) :
    FnZ P w K mg base (k + 1) f fd ps (fnZ N.length B) := by
  refine F.ok S (fun vs H Q E ⟨m, ds, st, _, r, l, _⟩ => (RelL.length r).symm.trans l) fun cdv A outer s H vs Q E hr h => ?_
  refine ⟨_, pss_one (ps_ret (hb cdv A outer s H E hr (takes_of rfl rfl rfl rfl) (passes_of rfl))), ?_⟩
  obtain ⟨m, ds, st, S', r, l, q⟩ := h
  have hl := RelL.length r
  refine ⟨m, _, st, S', relN_start (N.length - vs.length) r, ?_⟩
  unfold fnZ at q
  rw [hl] at q
  exact wp_mono q (fun _ _ z => z) fun _ _ z => z
end
def fCallZ (n : Nat) (g : List D → M (List D)) (G : En → M (List D)) : En → M (List D) := fun en => G en >>= fun ds => if ds.length = n then g ds else bad
section
variable {X : Cx} {W : WX} {p pos : Pos} {x : Str} {e : Expr} {es : List Expr} {k : Nat} {f : Addr} {fd : FuncData} {ps : List Str} {g : List D → M (List D)} {G : En → M (List D)}
theorem ez_call (F : FnZ X.prog X.w X.K X.mg X.base k f fd ps g) (hr : Room k X.A) (hm : X.mg x = some (.ref f)) (hk : PySem.W.keepIn X.K (.ref f) = true) (hb : Binds X.K fd ps []) (tk : Takes X W) (ha : EvA X W (e :: es) G)
    (hg : Gl X x := by rfl) (hdb : (x == ("__debug__" : Str)) = false := by decide) (he : starEach (e :: es) X.env = (false, eval e X.env) :: starEach es X.env := by rfl) (hpl : (backTo pos (starEach es X.env)).any (·.1) = false := by rfl) :
    EvZ X W (.Call (.Name x p) (e :: es) [] pos) (fCallZ ps.length g G) :=
  (pe_callSD F hr hg hm hk hb .nil (fun σ => passAt tk σ) ha hdb he hpl).mirImp fun σ H Q ⟨m, en, st, S, N, q⟩ => seq_wp mono_Z S N q fun m1 st1 as vs H1 s1 S1 rl N1 q1 => by
    split at q1
    · rename_i hl
      rw [List.append_nil]
      exact ⟨m1, as, st1, S1, rl, hl, q1⟩
    · exact (q1 : False).elim
theorem TZ.step {K : PySem.W.Frag} {m m1 : List Addr} {H H1 : Hp} {st : Sto} {q : Addr} {vs : List V} (S : Sim K m st H) (s : Step K m H m1 H1) (t : TZ H q vs) : TZ H1 q vs := by
  obtain ⟨o, e, h⟩ := t
  refine ⟨o, s.keep _ _ e fun hp => ?_, h⟩
  obtain ⟨u, e2, _, n, _⟩ := S.there hp
  rw [e] at e2
  exact n _ _ (Option.some.inj e2).symm
def rCntZ : V → List V → Hp → VK → Prop := fun x xs H Q => ∃ (q : Addr) (ns : List Int) (k : Int), x = .ref q ∧ xs = [.int k] ∧ TZ H q (ns.map V.int) ∧ Q (.int (ns.count k : Nat)) H
theorem mt_zcount : MtR X "tuple.count" rCntZ := by
  intro pins s σ H x xs v us Q I rx rxs h
  obtain ⟨p, ns, k, rfl, rfl, ⟨o, hz, hdn⟩, q⟩ := h
  cases rx
  obtain ⟨u, rfl, ru⟩ := rxs.one
  obtain ⟨t, rfl⟩ := ru
  obtain ⟨ho, _, its, rv, o2, ho2, hc, n, hd⟩ := I.hok _ _ hz
  rw [ho] at ho2
  cases ho2
  obtain ⟨cls, dd, data, sl⟩ := o
  simp only at hc hd
  subst hc hd
  have hi := intsAre_of rv
  refine PySem.call_meets PySem.F.slot_tuple_count ⟨_, ho, rfl⟩ PySem.F.entry_tuple_count (PySem.F.args_tuple_count_2 _ _)
    (SeqAt.tuple_countAt p its.toArray n dd sl (.int k t) (eqk k)) ⟨ho, fun y hy => (eqk_gives hi y (by simpa using hy)).at _ _, ?_⟩
  have ec : its.toArray.toList.countP (eqk k) = ns.count k := eqk_count hi
  refine ⟨.int (ns.count k : Nat), H, I.tok _, ⟨s.toks, ?_⟩, q⟩
  show Value.int ((its.toArray.toList.countP (eqk k) : Nat) : Int) s.toks = _
  rw [ec]
def fCntZ1 (k : D) (xs : List D) : M D := match k with
  | .int k => cntL xs k
  | _ => bad
def fCntA : List D → M D
  | [d] => pure d
  | _ => bad
theorem ez_count {o : Expr} {apos cpos : Pos} {Fo : En → M (List D)} {Fa : En → M (List D)} (ho : EvZ X W o Fo) (ha : EvA X W [e] Fa) (hbase : attributeBase o "count" X.env (eval o X.env) = eval o X.env := by rfl)
    (hfew : ((backTo cpos (starEach [e] X.env)).all (fun x => !x.1) && (backToKw cpos (keywordEach [] X.env)).all (fun x => x.1.isSome)
      && decide ([e].length + ([] : List Keyword).length + (if ([] : List Keyword).isEmpty then 0 else 1) < 30)) = true := by rfl)
    (hline : (apos.endLine == cpos.line) = true := by rfl) (hs : starEach [e] X.env = (false, eval e X.env) :: starEach [] X.env := by rfl) (hplain : (backTo cpos (starEach [] X.env)).any (·.1) = false := by rfl) :
    EvE X W (.Call (.Attribute o "count" apos) [e] [] cpos) (fun en => Fo en >>= fun xs => (Fa en >>= fCntA) >>= fun k => fCntZ1 k xs) := by
  refine ⟨fun pins s σ H Q I h => ?_⟩
  obtain ⟨m, en, st, S, N, q⟩ := h
  have h2 : tG X.K X.mg (rZ X.K) W Fo σ H (fun x H1 => (∃ p vs, x = .ref p ∧ TZ H1 p vs) ∧ tG X.K X.mg (rL X.K) W Fa σ H1 fun vs H2 => rCntZ x vs H2 Q) := by
    refine seq_wp mono_D S N q fun m1 st1 xs x H1 s1 S1 r N1 q1 => ?_
    obtain ⟨p, vs, rfl, tz, rl⟩ := r
    refine ⟨⟨p, vs, rfl, tz⟩, ?_⟩
    have q1' : ((Fa en >>= fun ds => fCntA ds >>= fun k => fCntZ1 k xs) st1).Wp (PostR X.K (rD X.K) m1 H1 Q) (PostX X.K X.mg m1 H1 (WE W σ)) := by
      have e : (Fa en >>= fun ds => fCntA ds >>= fun k => fCntZ1 k xs) = ((Fa en >>= fCntA) >>= fun k => fCntZ1 k xs) := by
        funext st2
        rw [bind_def, bind_def, bind_def]
        cases Fa en st2 <;> rfl
      rw [e]
      exact q1
    refine seq_wp mono_D S1 N1 q1' fun m2 st2 ds us H2 s2 S2 rd N2 q2 => ?_
    have q2 := wp_bind.mp q2
    unfold fCntA at q2
    split at q2
    · obtain ⟨u, r', rfl, ru, re⟩ := rd
      cases re
      have q2 := wp_pure.mp q2
      unfold fCntZ1 at q2
      split at q2
      · cases (ru : u = _)
        unfold cntL at q2
        cases hn : intsD xs with
        | none => rw [hn] at q2; exact (q2 : False).elim
        | some ns =>
          rw [hn] at q2
          have ev := intsD_rel hn rl
          subst ev
          exact ⟨p, ns, _, rfl, rfl, tz.step S1 s2, (wp_pure.mp q2) _ m2 H2 .refl S2 rfl⟩
      · exact (q2 : False).elim
    · exact (q2 : False).elim
  refine wpAny_Call_method_late hbase hfew hline rfl (thn (ho.run pins s σ H _ I h2) fun v s1 ⟨x, H1, I1, r1, ⟨p, vs, ex, tz⟩, q1⟩ => ?_)
  subst ex
  obtain rfl : v = Value.ref p := r1
  obtain ⟨ob, hz, hdn⟩ := tz
  obtain ⟨hob, _, its, rv, o2, ho2, hc, n, hd⟩ := I1.hok _ _ hz
  rw [hob] at ho2
  cases ho2
  refine ⟨"tuple", "tuple.count", PySem.F.plainAttrs_tuple, PySem.F.slot_tuple_count, PySem.F.type_tuple_count, ⟨ob, hob, hc⟩, fun a ea => ⟨ob, by cases ea; exact hob, hdn⟩, ?_⟩
  have hA := ha.run cpos pins s1 σ H1 _ I1 q1
  rw [hs] at hA ⊢
  refine Calls.callWith_builtin (by show (false || (backTo cpos (starEach [] X.env)).any (·.1)) = false; rw [hplain] <;> rfl) (Calls.evalArgs_plain ?_)
  exact thn hA fun us s2 ⟨vs, H2, I2, r2, q2⟩ => mt_zcount pins s2 σ H2 (.ref p) vs (.ref p) us Q I2 rfl r2 q2
end
end Mir
end part_Mir10
section part_Mir11
set_option maxHeartbeats 1000000
/-! Mir11: the head's facts: defs, error classes; the end. -/
namespace Mir
open PySem PySem.Spec PyProof.Rows L2

/-- an error class of the text -/
structure XD where
  nm : Str
  fn : Str
  txt : Str
  qi : Str
  p : Pp
abbrev FnX : Type := Option (Str × Str × Arguments × FuncBody × Scope × Addr × List Str × Addr)
def fI (K : PySem.W.Frag) (d : XD) : Addr := He.ma K (He.ga K d.nm) "__init__"
def fnX (K : PySem.W.Frag) (d : XD) : FnX := match K.lookup (fI K d) with
  | some ⟨_, _, .func fd, _⟩ => some (fd.name, fd.qualname, fd.params, fd.body, fd.scope, fd.globals, fd.closure.map (·.1), fd.builtins)
  | _ => none
def XD.val (d : XD) : FnX := some ("__init__", d.qi, xArgs d.fn d.p, .stmts (xBody d.fn d.txt d.p), xScope d.fn, mainGlobals, ["__class__"], builtinsNs)
def clsB (K : PySem.W.Frag) (C : Addr) : Bool := match K.lookup C with
  | some ⟨.type "type", _, .cls cd, sl⟩ => (match cd.mro, sl.toList with
    | .ref C' :: bm, [_, _, _, _, some (.builtin n), _] => C' == C && (n == "ValueError.__new__" && (!cd.hasDel && (cd.hasDict && PySem.HandSPX.refsVE bm)))
    | _, _ => false)
  | _ => false
theorem clsB_ok {K : PySem.W.Frag} {C : Addr} (q : clsB K C = true) : ∃ nm q N bs bm sn sub ab col dd k0 k1 k2 k3 k5, K.lookup C = some (excClassObj nm q C N bs bm true sn sub ab col dd k0 k1 k2 k3 k5 "ValueError.__new__") ∧ PySem.HandSPX.refsVE bm = true := by
  unfold clsB at q
  split at q
  · rename_i dd cd sl ho
    split at q
    · rename_i C' bm k0 k1 k2 k3 n k5 hm hs
      simp only [Bool.and_eq_true, beq_iff_eq, Bool.not_eq_true'] at q
      obtain ⟨rfl, rfl, hdel, hd, ht⟩ := q
      obtain ⟨nm, bs, mro, ns, qn, hd', sn, sub, ab, col, del⟩ := cd
      dsimp only at hm hdel hd
      subst hm hdel hd
      have hsl : sl = #[k0, k1, k2, k3, some (.builtin "ValueError.__new__"), k5] := by
        obtain ⟨l⟩ := sl
        simp only at hs
        rw [hs]
      subst hsl
      exact ⟨nm, qn, ns, bs, bm, sn, sub, ab, col, dd, k0, k1, k2, k3, k5, ho, ht⟩
    · cases q
  · cases q
def fileB (file : Str) : Option Value → Bool
  | some (.str f _) => file == f
  | _ => false
def funB (K : PySem.W.Frag) (file : Str) (d : XD) : Bool := match K.lookup (fI K d) with
  | some ⟨_, _, .func fd, _⟩ => (match fd.closure, fd.defaults, fd.kwdefaults, fd.code with
    | [(_, cc)], .none, .none, .ref cda => PySem.W.codeIn K (.ref cda) d.qi && ((match K.lookup cc with
      | some ⟨_, _, .cell (some (.ref D)), _⟩ => D == He.ga K d.nm
      | _ => false) && (match K.lookup cda with
      | some ⟨_, _, .fields vs, _⟩ => fileB file vs[2]?
      | _ => false))
    | _, _, _, _ => false)
  | _ => false
theorem funB_ok {K : PySem.W.Frag} {file : Str} {d : XD} (e : fnX K d = d.val) (q : funB K file d = true) (hline : (d.p.b3.endLine == d.p.b5.line) = true) :
    ∃ (oc : Value) (od : Option Addr) (doc pm : Value) (an : Option Addr) (ct : Value) (osl : Array (Option Value)) (cc cda : Addr) (p : Pp),
      K.lookup (fI K d) = some ⟨oc, od, .func (PySem.W.ksFn "__init__" d.qi (xArgs d.fn p) (xBody d.fn d.txt p) (xScope d.fn) .none .none doc pm an (.ref cda) ct cc), osl⟩ ∧ PySem.W.codeIn K (.ref cda) d.qi = true ∧ (p.b3.endLine == p.b5.line) = true ∧
      (∃ c dd vs l f tf, K.lookup cda = some ⟨c, dd, .fields vs, l⟩ ∧ vs[2]? = some (.str f tf) ∧ (file == f) = true) ∧ ∃ c dd l, K.lookup cc = some ⟨c, dd, .cell (some (.ref (He.ga K d.nm))), l⟩ := by
  unfold funB at q
  unfold fnX XD.val at e
  split at q
  · rename_i oc od fd osl lk
    rw [lk] at e
    split at q
    · rename_i nm0 cc cda h1 h2 h3 h4
      obtain ⟨n1, n2, n3, n4, n5, n6, n7, n8, n9, n10, n11, n12, n13, n14, n15⟩ := fd
      dsimp only at h1 h2 h3 h4
      subst h1 h2 h3 h4
      dsimp only at e
      simp only [Option.some.injEq, Prod.mk.injEq, List.map_cons, List.map_nil] at e
      obtain ⟨e1, e2, e3, e4, e5, e6, e7, e8⟩ := e
      have e9 : nm0 = ("__class__" : Str) := List.head_eq_of_cons_eq e7
      subst e1 e2 e3 e4 e5 e6 e8 e9
      obtain ⟨q1, q2⟩ := He.ba q
      obtain ⟨q3, q4⟩ := He.ba q2
      refine ⟨oc, od, _, _, _, _, osl, cc, cda, d.p, lk, q1, hline, ?_, ?_⟩
      · split at q4
        · rename_i c dd vs l lc
          unfold fileB at q4
          split at q4
          · rename_i f tf hf
            exact ⟨c, dd, vs, l, f, tf, lc, hf, q4⟩
          · cases q4
        · cases q4
      · split at q3
        · rename_i c dd D l lc
          have : D = He.ga K d.nm := eq_of_beq q3
          subst this
          exact ⟨c, dd, l, lc⟩
        · cases q3
    · cases q
  · cases q
def exB (K : PySem.W.Frag) (file : Str) (d : XD) : Bool :=
  clsB K (He.ga K d.nm) && (funB K file d && (He.eqO (PySem.W.nsIn K mainGlobals d.nm) (some (some (.ref (He.ga K d.nm)))) &&
  (He.eqO (PySem.W.findIn K (.ref (He.ga K d.nm)) "__setattr__") (some (some (.builtin "object.__setattr__"))) && (He.eqO (PySem.W.findIn K (.ref (He.ga K d.nm)) "__getattribute__") (some (some (.builtin "BaseException.__getattribute__"))) &&
  (He.eqO (PySem.W.findIn K (.ref (He.ga K d.nm)) "__getattr__") (some none) && (He.eqO (PySem.W.findIn K (.ref (He.ga K d.nm)) d.fn) (some none) && (He.eqO (PySem.W.findIn K (.ref (He.ga K d.nm)) "__init__") (some (some (.ref (fI K d)))) &&
  (decide (PySem.W.typeIn K (.ref (fI K d)) = some (.type "function")) && (PySem.W.keepIn K (.ref (He.ga K d.nm)) && (decide (PySem.W.subIn K (.ref (He.ga K d.nm)) (.type "BaseException") = some true) &&
  (decide (PySem.W.typeIn K (.ref (He.ga K d.nm)) = some (.type "type")) && (PySem.W.hasDictIn K (He.ga K d.nm) && (He.eqO (PySem.W.ks_superIn K (He.ga K d.nm) (He.ga K d.nm) "__init__") (some (some (.builtin "ValueError.__init__"))) &&
  (decide (PySem.W.subIn K (.ref (He.ga K d.nm)) (.type "ValueError") = some true) && (decide (PySem.W.mroIn K (He.ga K d.nm) (.ref (He.ga K d.nm)) = some true) && (He.eqO (PySem.W.nsIn K cStatics "thirdparty.any") (some none) &&
  (He.eqO (PySem.W.findIn K (.ref (He.ga K d.nm)) "__class__") (some (some (.builtin "object.__class__"))) && (He.eqO (PySem.W.specialIn K (.builtin "object.__class__") "__get__") (some (some (.builtin "getset_descriptor.__get__"))) &&
  (decide (PySem.W.takesIn K (.builtin "object.__class__") = some true) && decide (PySem.W.mroIn K (He.ga K d.nm) (.type "object") = some true))))))))))))))))))))
theorem exB_ok {P : Program} {K : PySem.W.Frag} {h : Heap} {mg : Str → Option Value} {d : XD} (X : K.In h) (G : h.Ns mainGlobals mg) (e : fnX K d = d.val) (q : exB K P.main.file d = true) (hs : mg "super" = none) (ht : (P.main.scope.names.lookup ("super" : Str)).isSome = false)
    (hline : (d.p.b3.endLine == d.p.b5.line) = true) (hfn : d.fn = "at" ∨ d.fn = "value") : ExT P K mg d.nm d.fn d.txt d.qi (He.ga K d.nm) (fI K d) := by
  unfold exB at q
  obtain ⟨a1, q⟩ := He.ba q
  obtain ⟨a2, q⟩ := He.ba q
  obtain ⟨a3, q⟩ := He.ba q
  obtain ⟨a4, q⟩ := He.ba q
  obtain ⟨a5, q⟩ := He.ba q
  obtain ⟨a6, q⟩ := He.ba q
  obtain ⟨a7, q⟩ := He.ba q
  obtain ⟨a8, q⟩ := He.ba q
  obtain ⟨a9, q⟩ := He.ba q
  obtain ⟨a10, q⟩ := He.ba q
  obtain ⟨a11, q⟩ := He.ba q
  obtain ⟨a12, q⟩ := He.ba q
  obtain ⟨a13, q⟩ := He.ba q
  obtain ⟨a14, q⟩ := He.ba q
  obtain ⟨a15, q⟩ := He.ba q
  obtain ⟨a16, q⟩ := He.ba q
  obtain ⟨a17, q⟩ := He.ba q
  obtain ⟨a18, q⟩ := He.ba q
  obtain ⟨a19, q⟩ := He.ba q
  obtain ⟨a20, a21⟩ := He.ba q
  exact ⟨PySem.W.mg_of X G (He.eqO_ok a3), clsB_ok a1, He.eqO_ok a4, He.eqO_ok a5, He.eqO_ok a6, He.eqO_ok a7, He.eqO_ok a8, of_decide_eq_true a9, a10, of_decide_eq_true a11, of_decide_eq_true a12, a13,
    He.eqO_ok a14, of_decide_eq_true a15, of_decide_eq_true a16, hs, He.eqO_ok a18, He.eqO_ok a19, of_decide_eq_true a20, of_decide_eq_true a21, He.eqO_ok a17, ht, funB_ok e a2 hline, hfn⟩
/-- what an error of the class x is to the class y: taken by «except y», told by isinstance -/
structure XR where
  x : Str
  y : Str
  b : Bool
def XR.ok (K : PySem.W.Frag) (r : XR) : Bool := decide (PySem.W.exmOne K (.ref (He.ga K r.x)) (.ref (He.ga K r.y)) = some r.b) && decide (PySem.W.kitOne K (.ref (He.ga K r.x)) (.ref (He.ga K r.y)) = some r.b) && (He.eqO (PySem.W.findIn K (.ref (He.ga K r.x)) "at") (some none) && He.eqO (PySem.W.findIn K (.ref (He.ga K r.x)) "value") (some none))
def noLists (K : PySem.W.Frag) : Bool := K.all fun q => match q.2.cls with
  | .type n => !(n == "list")
  | _ => true

abbrev AlM : Type := He.AlD × (Bool × List FnX)
def kM (g : Addr → Option Obj) (n : Nat) : PySem.W.Frag := He.frG g (cStatics :: He.asD g n)
structure What where
  fa : List He.Fa
  fn : List He.DefD
  xs : List XD
  rs : List XR
  file : Str
def What.exs (q : What) (K : PySem.W.Frag) : Bool × List FnX := (noLists K && ((q.xs.all fun d => exB K q.file d) && q.rs.all fun r => r.ok K), q.xs.map (fnX K))
structure What.Says (q : What) (K : PySem.W.Frag) : Prop where
  d : He.SaysD q.fa q.fn K
  nl : noLists K = true
  xs : ∀ d ∈ q.xs, exB K q.file d = true
  rs : ∀ r ∈ q.rs, r.ok K = true
  fx : ∀ d ∈ q.xs, fnX K d = d.val
def obsM (n : Nat) (q : What) (g : Addr → Option Obj) : AlM := (He.obsD q.fa q.fn (kM g n), q.exs (kM g n))
def valM (q : What) : AlM := (He.valD q.fn, (true, q.xs.map XD.val))
theorem map_eq {α β : Type} {f g : α → β} : ∀ {l : List α}, l.map f = l.map g → ∀ a ∈ l, f a = g a
  | [], _, _, h => nomatch h
  | b :: l, e, a, h => by
    rw [List.map_cons, List.map_cons, List.cons.injEq] at e
    rcases List.mem_cons.mp h with rfl | h
    · exact e.1
    · exact map_eq e.2 a h
theorem says_of {q : What} {K : PySem.W.Frag} (e : ((He.obsD q.fa q.fn K, q.exs K) : AlM) = valM q) : q.Says K := by
  have e1 : He.obsD q.fa q.fn K = He.valD q.fn := congrArg (fun z : AlM => z.1) e
  have e2 : (noLists K && ((q.xs.all fun d => exB K q.file d) && q.rs.all fun r => r.ok K)) = true := congrArg (fun z : AlM => z.2.1) e
  have e3 : q.xs.map (fnX K) = q.xs.map XD.val := congrArg (fun z : AlM => z.2.2) e
  obtain ⟨a1, a2⟩ := He.ba e2
  obtain ⟨a3, a4⟩ := He.ba a2
  exact ⟨e1, a1, fun d h => List.all_eq_true.mp a3 d h, fun r h => List.all_eq_true.mp a4 r h, map_eq e3⟩
def hookM (n : Nat) (q : What) : PySem.W.Hook where
  α := AlM
  obs := fun s => obsM n q s.heap.get?
  val := fun _ => valM q
  says := fun _ h => ∃ K : PySem.W.Frag, K.In h ∧ q.Says K
  of := fun _ _ e => ⟨_, He.frG_in, says_of e⟩
  keeps := fun _ _ _ ⟨K, hK, c⟩ k => ⟨K, PySem.W.Frag.In.keeps hK k, c⟩
theorem obsM_eq {n : Nat} {q : What} {g : Addr → Option Obj} {s : Shared} (h : ∀ a, g a = s.heap.get? a) : obsM n q g = (hookM n q).obs s := by
  have e : g = s.heap.get? := funext h
  rw [e] <;> rfl
/-- the script's list is none of K's -/
theorem no_list {K : PySem.W.Frag} (c : noLists K = true) {a : Addr} {o : Obj} (e : K.lookup a = some o) (hc : o.cls = .type "list") : False := by
  have mem : ∀ {l : List (Addr × Obj)}, l.lookup a = some o → (a, o) ∈ l := by
    intro l
    induction l with
    | nil => intro h; cases h
    | cons q l ih =>
      intro h
      rw [List.lookup_cons] at h
      split at h
      · rename_i z
        cases h
        rw [beq_iff_eq.mp z]
        exact List.mem_cons_self ..
      · exact List.mem_cons_of_mem _ (ih h)
  have q := List.all_eq_true.mp c _ (mem e)
  dsimp only at q
  rw [hc] at q
  exact absurd q (by decide)
theorem rd_script {K : PySem.W.Frag} {H : Hp} {a : Addr} {xs : List V} (c : noLists K = true) (O : Only H) (h : SqL K H a xs) : ∃ o, H a = some (.frz o (.lst xs)) := by
  rcases h with h | ⟨o, its, n, hk, hc, _⟩
  · rcases h with h | h
    · rcases O a with z | ⟨o, ys, z⟩
      · rw [z] at h; cases h
      · rw [z] at h; cases h
    · exact h
  · exact (no_list c hk hc).elim
/-- the law's promise from the mirror's -/
theorem law_sp {K : PySem.W.Frag} {mg : Str → Option Value} {g : List D → M D} {H : Hp} {a : Addr} {ns : List Int} (c : noLists K = true) (O : Only H) (h : SqL K H a (ns.map V.int))
    (q : (g [.ref 0] [.ro (ns.map D.int)]).Wp (fun d _ => d = .bl true) fun _ _ => False) : spM K mg 1 g [.ref a] H (fun v _ => v = .bl true) fun _ _ _ => False := by
  obtain ⟨o, e⟩ := rd_script c O h
  refine ⟨[a], [.ref 0], [.ro (ns.map D.int)], ⟨rfl, by simp, fun i p ob h1 h2 => ?_⟩, ⟨_, _, rfl, ⟨a, rfl, rfl⟩, rfl⟩, rfl, wp_mono q (fun d st z v m' H' s S r => ?_) fun _ _ z => z.elim⟩
  · cases i with
    | zero =>
      cases h1
      cases h2
      exact ⟨o, _, e, RelL.ofInts⟩
    | succ i => cases h1
  · subst z
    exact r
end Mir
end part_Mir11
section part_Mir12
set_option maxHeartbeats 1000000
/-! Mir12: what the printed terms lean on. -/
namespace Mir
open PySem PySem.Spec PyProof.Rows L2

theorem u1 {k : Nat} {A : Around} (r : Room k A) : A.units + 1 < cLine := by have := r.un; omega
theorem u64 {k : Nat} {A : Around} (r : Room k A) : A.units + 64 < cLine := by have := r.un; omega
theorem u65 {k : Nat} {A : Around} (r : Room k A) : A.units + 65 < cLine := by have := r.un; omega
section
variable {P : Program} {w : World} {K : PySem.W.Frag} {mg : Str → Option Value} {base : Heap} {x qual : Str} {params : Arguments} {body : List Stmt} {scope : Scope} {dvs : List V} {kws : List (Str × V)} {f : Addr} {fd : FuncData} {ps N : List Str}
/-- keywords behind n values, no defaults -/
theorem kb_all (F : FunD K x qual params body scope [] [] f fd) (n : Nat) (ks : List Str)
    (h : ∀ (kV doc pm : Value) (an : Option Addr) (cdv ct : Value) (us ws : List Value), us.length = n → ws.length = ks.length → bindArgs (PySem.W.fnOf x qual params body scope .none kV doc pm an cdv ct) ⟨us, ks.zip ws⟩ = pure (ps.zip (us ++ ws))) :
    KBn K fd ps n ks (fun us ws => us ++ ws) (fun vs zs => vs ++ zs) := by
  obtain ⟨oc, od, dV, kV, doc, pm, an, cdv, ct, osl, rfl, lk, hcd, hD, hK⟩ := F.ex
  rcases hD with ⟨_, rfl⟩ | ⟨e, _⟩
  · exact ⟨fun s us ws _ l1 l2 => .of_eq (h kV doc pm an cdv ct us ws l1 l2), fun a b => a.append b⟩
  · exact absurd rfl e
theorem kb_rel {n m' : Nat} : ∀ m H (ds : List D) (vs : List V) (zs : List D) (ws : List V), RelL K m H ds vs → RelL K m H zs ws → ds.length = n → zs.length = m' → RelL K m H (ds ++ zs) (vs ++ ws) := fun _ _ _ _ _ _ a b _ _ => a.append b
/-- a def of which nothing is told -/
theorem fn_bad {k : Nat} (F : FunD K x qual params body scope dvs kws f fd) (S : FnScope N ps scope) : Fn P w K mg base (k + 1) f fd ps (fun _ => bad) :=
  F.ok S (fun vs H Q E ⟨m, ds, st, _, r, l, _⟩ => (RelL.length r).symm.trans l) fun cdv A outer s H vs Q E hr ⟨m, ds, st, _, r, l, q⟩ => (q : False).elim
end
/-! error classes by tables -/
def tabOf (rs : List XR) (y : Str) : Tab := rs.filterMap fun r => if r.y = y then some (r.x, r.b) else none
theorem tabOf_ok {rs : List XR} {y nm : Str} {b : Bool} (h : (tabOf rs y).lookup nm = some b) : ∃ r ∈ rs, r.x = nm ∧ r.y = y ∧ r.b = b := by
  unfold tabOf at h
  induction rs with
  | nil => cases h
  | cons r rs ih =>
    rw [List.filterMap_cons] at h
    by_cases e : r.y = y
    · rw [if_pos e] at h
      dsimp only at h
      rw [List.lookup_cons] at h
      split at h
      · rename_i z
        exact ⟨r, List.mem_cons_self .., (beq_iff_eq.mp z).symm, e, Option.some.inj h⟩
      · obtain ⟨r', m, q⟩ := ih h
        exact ⟨r', List.mem_cons_of_mem _ m, q⟩
    · rw [if_neg e] at h
      dsimp only at h
      obtain ⟨r', m, q⟩ := ih h
      exact ⟨r', List.mem_cons_of_mem _ m, q⟩
/-- what is known of the error classes -/
structure Errs (K : PySem.W.Frag) (mg : Str → Option Value) (rs : List XR) : Prop where
  ok : ∀ r ∈ rs, r.ok K = true
  glo : ∀ r ∈ rs, mg r.x = some (.ref (He.ga K r.x))
  exi : ∀ r ∈ rs, ExI K (He.ga K r.x)
section
variable {K : PySem.W.Frag} {mg : Str → Option Value} {rs : List XR}
theorem Errs.at (c : Errs K mg rs) {y nm : Str} {b : Bool} (h : (tabOf rs y).lookup nm = some b) {C : Addr} (g : mg nm = some (.ref C)) :
    PySem.W.exmOne K (.ref C) (.ref (He.ga K y)) = some b ∧ PySem.W.kitOne K (.ref C) (.ref (He.ga K y)) = some b ∧ PySem.W.findIn K (.ref C) "at" = some none ∧ PySem.W.findIn K (.ref C) "value" = some none ∧ ExI K C := by
  obtain ⟨r, hr, rfl, rfl, rfl⟩ := tabOf_ok h
  rw [c.glo r hr] at g
  cases g
  have q := c.ok r hr
  unfold XR.ok at q
  obtain ⟨q1, q2⟩ := He.ba q
  obtain ⟨q3, q4⟩ := He.ba q1
  obtain ⟨q5, q6⟩ := He.ba q2
  exact ⟨of_decide_eq_true q3, of_decide_eq_true q4, He.eqO_ok q5, He.eqO_ok q6, c.exi r hr⟩
theorem Errs.exm (c : Errs K mg rs) (y : Str) : ∀ nm b, (tabOf rs y).lookup nm = some b → ∀ C, mg nm = some (.ref C) → PySem.W.exmOne K (.ref C) (.ref (He.ga K y)) = some b := fun _ _ h _ g => (c.at h g).1
theorem Errs.kit (c : Errs K mg rs) (y : Str) : ∀ nm b, (tabOf rs y).lookup nm = some b → ∀ C, mg nm = some (.ref C) → ExI K C ∧ PySem.W.kitOne K (.ref C) (.ref (He.ga K y)) = some b := fun _ _ h _ g => ⟨(c.at h g).2.2.2.2, (c.at h g).2.1⟩
end
def fFldT (t : Tab) (x : Exn) (f : Str) : En → M D := fun _ => match t.lookup x.cls, x.fs.lookup f with
  | some _, some v => pure v
  | _, _ => bad
section
variable {X : Cx} {x : Exn} {cls : Value} {d : Option Addr} {a : Addr} {i : Nat} {W : WX} {pos : Pos} {oe : Obj} {pn : List (Addr × Obj)} {rs : List XR}
theorem jv_fldT {n f : Str} {pp : Pos} (y : Str) (c : Errs X.K X.mg rs) (hz : Zc cls d oe) (hf : ∃ vs, oe.data = .fields vs) (hN : X.N[i]? = some n) (he : PE (X.suite a ((a, oe) :: pn)) (.Name n pp) (tVar i)) (hfn : f = "at" ∨ f = "value")
    (hb : attributeBase (.Name n pp) f X.env (eval (.Name n pp) X.env) = eval (.Name n pp) X.env := by rfl) :
    JvE (X.suite a ((a, oe) :: pn)) x cls d a (some i) W (.Attribute (.Name n pp) f pos) (fFldT (tabOf rs y) x f) := by
  cases e : (tabOf rs y).lookup x.cls with
  | none =>
    refine ⟨fun pins s σ H Q I ⟨m, en, st, S, N, j, q⟩ => ?_⟩
    unfold fFldT at q
    rw [e] at q
    exact (q : False).elim
  | some b =>
    have h := jv_fld (x := x) (W := W) (pos := pos) hz hf hN he (fun C g _ => ⟨(c.at e g).2.2.2.2, by rcases hfn with rfl | rfl; exact (c.at e g).2.2.1; exact (c.at e g).2.2.2.1⟩) hb
    have e2 : fFldT (tabOf rs y) x f = fFld x f := by
      unfold fFldT fFld
      rw [e]
      funext en
      cases x.fs.lookup f <;> rfl
    rw [e2]
    exact h
end
section
variable {X : Cx} {W : WX} {pos : Pos}
/-- an int of the module -/
theorem ev_gint {x : Str} (i : Int) (h : ∃ t, X.mg x = some (.int i t)) (hg : Gl X x := by rfl) (hd : (x == ("__debug__" : Str)) = false := by decide) : EvE X W (.Name x pos) (fC (.int i)) := by
  obtain ⟨t, h⟩ := h
  exact ev_c (pe_glob (v := .int i) hg h ⟨_, rfl⟩ hd) fun _ _ => rfl
end
section
variable {X : Cx} {W : WX} {p pos : Pos} {x : Str} {e : Expr} {es : List Expr} {kws : List Keyword} {k n l : Nat} {f : Addr} {fd : FuncData} {ps ks : List Str} {g : List D → M D} {gz : List D → M (List D)} {G G2 : En → M (List D)} {dd : List D} {dvs : List V} {ds : List Value}
theorem ec (F : Fn X.prog X.w X.K X.mg X.base k f fd ps g) (hr : Room k X.A) (hm : X.mg x = some (.ref f)) (hk : PySem.W.keepIn X.K (.ref f) = true) (hb : Binds X.K fd ps ds) (hd : Vals dvs ds) (hdd : ∀ m H, RelL X.K m H dd dvs) (tk : Takes X W) (ha : EvA X W (e :: es) G)
    (hn : ps.length = n := by rfl) (hg : Gl X x := by rfl) (hdb : (x == ("__debug__" : Str)) = false := by decide) (he : starEach (e :: es) X.env = (false, eval e X.env) :: starEach es X.env := by rfl) (hpl : (backTo pos (starEach es X.env)).any (·.1) = false := by rfl) :
    EvE X W (.Call (.Name x p) (e :: es) [] pos) (fCall n dd g G) := by
  subst hn
  exact ev_call F hr hm hk hb hd hdd tk ha hg hdb he hpl
theorem ec0 (F : Fn X.prog X.w X.K X.mg X.base k f fd ps g) (hr : Room k X.A) (hm : X.mg x = some (.ref f)) (hk : PySem.W.keepIn X.K (.ref f) = true) (hb : Binds X.K fd ps []) (tk : Takes X W) (ha : EvA X W (e :: es) G)
    (hn : ps.length = n := by rfl) (hg : Gl X x := by rfl) (hdb : (x == ("__debug__" : Str)) = false := by decide) (he : starEach (e :: es) X.env = (false, eval e X.env) :: starEach es X.env := by rfl) (hpl : (backTo pos (starEach es X.env)).any (·.1) = false := by rfl) :
    EvE X W (.Call (.Name x p) (e :: es) [] pos) (fCall n [] g G) := ec F hr hm hk hb .nil (fun _ _ => rfl) tk ha hn hg hdb he hpl
theorem ecz (F : FnZ X.prog X.w X.K X.mg X.base k f fd ps gz) (hr : Room k X.A) (hm : X.mg x = some (.ref f)) (hk : PySem.W.keepIn X.K (.ref f) = true) (hb : Binds X.K fd ps []) (tk : Takes X W) (ha : EvA X W (e :: es) G)
    (hn : ps.length = n := by rfl) (hg : Gl X x := by rfl) (hdb : (x == ("__debug__" : Str)) = false := by decide) (he : starEach (e :: es) X.env = (false, eval e X.env) :: starEach es X.env := by rfl) (hpl : (backTo pos (starEach es X.env)).any (·.1) = false := by rfl) :
    EvZ X W (.Call (.Name x p) (e :: es) [] pos) (fCallZ n gz G) := by
  subst hn
  exact ez_call F hr hm hk hb tk ha hg hdb he hpl
theorem eck {n1 : Nat} (F : Fn X.prog X.w X.K X.mg X.base k f fd ps g) (hr : Room k X.A) (hm : X.mg x = some (.ref f)) (hk : PySem.W.keepIn X.K (.ref f) = true) (hb : KBn X.K fd ps n1 ks (fun us ws => us ++ ws) (fun vs zs => vs ++ zs)) (tk : Takes X W) (ha : EvA X W (e :: es) G) (h2 : EvK X W kws G2)
    (hn : ps.length = n := by rfl) (hl : ks.length = l := by rfl) (hg : Gl X x := by rfl) (hall : (backToKw pos (keywordEach kws X.env)).all (·.1.isSome) = true := by rfl) (hks : (backToKw pos (keywordEach kws X.env)).filterMap (·.1) = ks := by rfl)
    (hdb : (x == ("__debug__" : Str)) = false := by decide) (he : starEach (e :: es) X.env = (false, eval e X.env) :: starEach es X.env := by rfl)
    (hpl : ((backTo pos (starEach (e :: es) X.env)).any (·.1) || (backToKw pos (keywordEach kws X.env)).any (·.1.isNone)) = false := by rfl) :
    EvE X W (.Call (.Name x p) (e :: es) kws pos) (fCallK n1 l n (fun a b => a ++ b) g G G2) := by
  subst hn hl
  exact ev_callK F hr hm hk hb kb_rel tk ha h2 hg hall hks hdb he hpl
theorem eck0 (F : Fn X.prog X.w X.K X.mg X.base k f fd ps g) (hr : Room k X.A) (hm : X.mg x = some (.ref f)) (hk : PySem.W.keepIn X.K (.ref f) = true) (hb : KBn X.K fd ps 0 ks (fun us ws => us ++ ws) (fun vs zs => vs ++ zs)) (tk : Takes X W) (h2 : EvK X W kws G2)
    (hn : ps.length = n := by rfl) (hl : ks.length = l := by rfl) (hg : Gl X x := by rfl) (hall : (backToKw pos (keywordEach kws X.env)).all (·.1.isSome) = true := by rfl) (hks : (backToKw pos (keywordEach kws X.env)).filterMap (·.1) = ks := by rfl)
    (hdb : (x == ("__debug__" : Str)) = false := by decide) (hpl : ((backTo pos (starEach [] X.env)).any (·.1) || (backToKw pos (keywordEach kws X.env)).any (·.1.isNone)) = false := by rfl) :
    EvE X W (.Call (.Name x p) [] kws pos) (fCallK 0 l n (fun a b => a ++ b) g aNil G2) := by
  subst hn hl
  exact ev_callK0 F hr hm hk hb kb_rel tk h2 hg hall hks hdb hpl
end
/-- the law, by its mirror -/
theorem walk_mir {l : PySem.W.OpenLaw} {n k : Nat} {q : Program} {loose : List Str} {XP : (Str → Option Value) → Heap → Prop} {YP : World → Heap → Prop} {d : DefRec} {x : Str} (hn : l.most = some n) (hn2 : n ≤ sizeLine) (hdf : d.params.defaults = []) (hr : Room k callerA)
    (F : ∀ (w : World) (mg : Str → Option Value) (fa : Addr) (h : Heap), YP w h → h.Ns mainGlobals mg → mg d.name = some (.ref fa) → ∃ (K : PySem.W.Frag) (fd : FuncData) (g : List D → M D), K.In h ∧ noLists K = true ∧ (∀ (s : Shared) (u : Value), BindsTo s fd ⟨[u], []⟩ [(x, u)]) ∧
      (∀ ns : List Int, ns.length ≤ n → (g [.ref 0] [.ro (ns.map D.int)]).Wp (fun d _ => d = .bl true) fun _ _ => False) ∧ ∀ base : Heap, K.In base → base.Ns mainGlobals mg → Fn l.prog w K mg base k fa fd [x] g) :
    PySem.W.WalkO q loose XP YP l.row.toRowW d [] (fun f vs => PySem.call f vs) := by
  refine Att.attach_call hn hdf fun w s₀ s₁ mg mb fa o pm cd doc a vs ns G Y ho hd hcd hmg hobj hints hlen hg => ?_
  obtain ⟨K, fd, g, KX, hnl, hb, hg2, hF⟩ := F w mg fa _ Y G.T.g hmg
  refine law_call KX G.T.g G.T.b G.T.builtins G.T.nolimit hg hobj hints (Nat.le_trans hlen hn2) hr hF hb (fun H hO hS => law_sp hnl hO hS (hg2 ns hlen)) fun H e s' z => ?_
  obtain ⟨_, _, _, _, _, _, _, _, _, _, _, _, z⟩ := z
  exact z
end Mir
end part_Mir12
section part_P0
set_option maxHeartbeats 1000000
/-! P0: what mirrors do, in plain words. -/
namespace Mir
open PySem PySem.Spec PyProof.Rows L2

section
variable {α β : Type} {Q Q' : α → Sto → Prop} {E E' : Exn → Sto → Prop} {st : Sto}
theorem wp_use {o : Out α} (h : o.Wp Q' (fun _ _ => False)) (k : ∀ a st, Q' a st → Q a st) : o.Wp Q E := wp_mono h k fun _ _ z => z.elim
theorem wp_ite {c : Prop} [Decidable c] {a b : M α} : ((if c then a else b) st).Wp Q E ↔ if c then (a st).Wp Q E else (b st).Wp Q E := by
  split <;> exact Iff.rfl
theorem wp_iteo {c : Prop} [Decidable c] {a b : Out α} : (if c then a else b).Wp Q E ↔ if c then a.Wp Q E else b.Wp Q E := by
  split <;> exact Iff.rfl
theorem wp_bad' : ((bad : M α) st).Wp Q E ↔ False := Iff.rfl
end
section
variable {Q : D → Sto → Prop} {QL : List D → Sto → Prop} {QB : Bool → Sto → Prop} {E : Exn → Sto → Prop} {st : Sto} {en : En}
theorem m_var {i : Nat} : (fVar i en st).Wp Q E ↔ ∃ d, en[i]? = some (some d) ∧ Q d st := by
  unfold fVar
  cases e : en[i]? with
  | none => exact ⟨fun q => q.elim, fun ⟨_, h, _⟩ => nomatch h⟩
  | some o =>
    cases o with
    | none => exact ⟨fun q => q.elim, fun ⟨_, h, _⟩ => nomatch h⟩
    | some d => exact ⟨fun q => ⟨d, rfl, q⟩, fun ⟨_, h, q⟩ => by cases h; exact q⟩
theorem m_c {d : D} : (fC d en st).Wp Q E ↔ Q d st := Iff.rfl
theorem m_op {g : D → D → M D} {a b : En → M D} : (fOp g a b en st).Wp Q E ↔ (a en st).Wp (fun x s1 => (b en s1).Wp (fun y s2 => (g x y s2).Wp Q E) E) E := by unfold fOp; rw [wp_bind]; simp only [wp_bind]
theorem m_un {g : D → M D} {a : En → M D} : (fUn g a en st).Wp Q E ↔ (a en st).Wp (fun x s1 => (g x s1).Wp Q E) E := by unfold fUn; rw [wp_bind]
theorem m_then {α β : Type} {g : α → M β} {F : En → M α} {Q : β → Sto → Prop} : (fThen g F en st).Wp Q E ↔ (F en st).Wp (fun x s1 => (g x s1).Wp Q E) E := by unfold fThen; rw [wp_bind]
theorem m_callb {g : List D → M D} {F : En → M (List D)} : (fCallB g F en st).Wp Q E ↔ (F en st).Wp (fun x s1 => (g x s1).Wp Q E) E := by unfold fCallB; rw [wp_bind]
theorem m_nil : (aNil en st).Wp QL E ↔ QL [] st := Iff.rfl
theorem m_cons {a : En → M D} {r : En → M (List D)} : (aCons a r en st).Wp QL E ↔ (a en st).Wp (fun d s1 => (r en s1).Wp (fun ds s2 => QL (d :: ds) s2) E) E := by
  unfold aCons; rw [wp_bind]; simp only [wp_bind, wp_pure]
theorem m_call {n : Nat} {dd : List D} {g : List D → M D} {G : En → M (List D)} : (fCall n dd g G en st).Wp Q E ↔ (G en st).Wp (fun ds s1 => (ds ++ dd).length = n ∧ (g (ds ++ dd) s1).Wp Q E) E := by
  unfold fCall
  rw [wp_bind]
  constructor
  · intro h
    refine wp_mono h (fun ds s1 q => ?_) fun _ _ z => z
    split at q
    · rename_i hl; exact ⟨hl, q⟩
    · exact q.elim
  · intro h
    refine wp_mono h (fun ds s1 q => ?_) fun _ _ z => z
    rw [if_pos q.1]
    exact q.2
theorem m_callk {n1 n2 n : Nat} {gV : List D → List D → List D} {g : List D → M D} {G1 G2 : En → M (List D)} : (fCallK n1 n2 n gV g G1 G2 en st).Wp Q E ↔
    (G1 en st).Wp (fun ds s1 => (G2 en s1).Wp (fun zs s2 => (ds.length = n1 ∧ zs.length = n2) ∧ (gV ds zs).length = n ∧ (g (gV ds zs) s2).Wp Q E) E) E := by
  unfold fCallK
  rw [wp_bind]
  simp only [wp_bind]
  constructor
  · intro h
    refine wp_mono h (fun ds s1 q => wp_mono q (fun zs s2 q => ?_) fun _ _ z => z) fun _ _ z => z
    split at q
    · rename_i h1
      split at q
      · rename_i h2; exact ⟨h1, h2, q⟩
      · exact q.elim
    · exact q.elim
  · intro h
    refine wp_mono h (fun ds s1 q => wp_mono q (fun zs s2 q => ?_) fun _ _ z => z) fun _ _ z => z
    rw [if_pos q.1, if_pos q.2.1]
    exact q.2.2
theorem m_tup {F : En → M (List D)} : (fTup F en st).Wp Q E ↔ (F en st).Wp (fun ds s1 => ds.length ≤ sizeLine ∧ Q (.tup ds) s1) E := by
  unfold fTup gTupD
  rw [wp_bind]
  simp only [wp_bind, wp_within, wp_pure]
theorem m_lst {F : En → M (List D)} : (fLst F en st).Wp QL E ↔ (F en st).Wp (fun ds s1 => ds.length ≤ sizeLine ∧ QL ds s1) E := by
  unfold fLst
  rw [wp_bind]
  simp only [wp_bind, wp_within, wp_pure]
theorem m_alloc {o : Ob} : (alloc o st).Wp Q E ↔ Q (.ref st.length) (st ++ [o]) := Iff.rfl
theorem m_new {F : En → M (List D)} : (fNew F en st).Wp Q E ↔ (F en st).Wp (fun ds s1 => Q (.ref s1.length) (s1 ++ [.lst ds])) E := by
  unfold fNew
  rw [wp_bind]
  rfl
theorem m_asB {d : D} : (asB d st).Wp QB E ↔ ∃ b, d = .bl b ∧ QB b st := by
  unfold asB
  split
  · exact ⟨fun q => ⟨_, rfl, q⟩, fun ⟨_, h, q⟩ => by cases h; exact q⟩
  · rename_i h
    exact ⟨fun q => q.elim, fun ⟨b, e, _⟩ => (h b e).elim⟩
theorem m_te {F : En → M D} : (tE F en st).Wp QB E ↔ (F en st).Wp (fun d s1 => ∃ b, d = .bl b ∧ QB b s1) E := by
  unfold tE
  rw [wp_bind]
  simp only [m_asB]
theorem m_tand {a b : En → M Bool} : (tAndM a b en st).Wp QB E ↔ (a en st).Wp (fun c s1 => if c = true then (b en s1).Wp QB E else QB false s1) E := by
  unfold tAndM
  rw [wp_bind]
  simp only [wp_ite, wp_pure]
theorem m_tor {a b : En → M Bool} : (tOrM a b en st).Wp QB E ↔ (a en st).Wp (fun c s1 => if c = true then QB true s1 else (b en s1).Wp QB E) E := by
  unfold tOrM
  rw [wp_bind]
  simp only [wp_ite, wp_pure]
theorem m_tnot {a : En → M Bool} : (tNotM a en st).Wp QB E ↔ (a en st).Wp (fun c s1 => QB (!c) s1) E := by
  unfold tNotM
  rw [wp_bind]
  simp only [wp_pure]
theorem m_if {c : En → M Bool} {a b : En → M D} : (fIf c a b en st).Wp Q E ↔ (c en st).Wp (fun k s1 => if k = true then (a en s1).Wp Q E else (b en s1).Wp Q E) E := by
  unfold fIf
  rw [wp_bind]
  simp only [wp_ite]
theorem m_and {a b : En → M D} : (fAnd a b en st).Wp Q E ↔ (a en st).Wp (fun d s1 => ∃ k, d = .bl k ∧ if k = true then (b en s1).Wp Q E else Q (.bl false) s1) E := by
  unfold fAnd
  rw [wp_bind]
  constructor
  · intro h
    refine wp_mono h (fun d s1 q => ?_) fun _ _ z => z
    split at q
    · exact ⟨true, rfl, q⟩
    · exact ⟨false, rfl, q⟩
    · exact q.elim
  · intro h
    refine wp_mono h (fun d s1 ⟨k, e, q⟩ => ?_) fun _ _ z => z
    subst e
    cases k
    · exact q
    · exact q
theorem m_or {a b : En → M D} : (fOr a b en st).Wp Q E ↔ (a en st).Wp (fun d s1 => ∃ k, d = .bl k ∧ if k = true then Q (.bl true) s1 else (b en s1).Wp Q E) E := by
  unfold fOr
  rw [wp_bind]
  constructor
  · intro h
    refine wp_mono h (fun d s1 q => ?_) fun _ _ z => z
    split at q
    · exact ⟨true, rfl, q⟩
    · exact ⟨false, rfl, q⟩
    · exact q.elim
  · intro h
    refine wp_mono h (fun d s1 ⟨k, e, q⟩ => ?_) fun _ _ z => z
    subst e
    cases k
    · exact q
    · exact q
end
/-! statements -/
section
variable {Q : Fl → En → Sto → Prop} {E : Exn → En → Sto → Prop} {st : Sto} {en : En}
theorem s_nx : (sNx en st).Wp Q E ↔ Q .nx en st := Iff.rfl
theorem s_bk : (sBk en st).Wp Q E ↔ Q .bk en st := Iff.rfl
theorem s_ct : (sCt en st).Wp Q E ↔ Q .ct en st := Iff.rfl
theorem s_seq {f g : FS} : (sSeq f g en st).Wp Q E ↔ (f en st).Wp (fun fl en' st' => match fl with
    | .nx => (g en' st').Wp Q E
    | fl => Q fl en' st') E := by
  unfold sSeq
  cases f en st with
  | bad => exact Iff.rfl
  | err x en' st' => exact Iff.rfl
  | ok fl en' st' => cases fl <;> exact Iff.rfl
theorem s_if {c : En → M Bool} {a b : FS} : (sIf c a b en st).Wp Q E ↔ (c en st).Wp (fun k s1 => if k = true then (a en s1).Wp Q E else (b en s1).Wp Q E) (fun x s1 => E x en s1) := by
  unfold sIf
  rw [wps_lift]
  constructor
  · intro h
    refine wp_mono h (fun k s1 q => ?_) fun _ _ z => z
    split at q <;> (rename_i h; simp only [h]; exact q)
  · intro h
    refine wp_mono h (fun k s1 q => ?_) fun _ _ z => z
    split at q <;> (rename_i h; simp only [h]; exact q)
theorem s_ret {F : En → M D} : (sRet F en st).Wp Q E ↔ (F en st).Wp (fun d s1 => Q (.rt d) en s1) (fun x s1 => E x en s1) := by
  unfold sRet
  rw [wps_lift]
  rfl
theorem s_expr {F : En → M D} : (sExpr F en st).Wp Q E ↔ (F en st).Wp (fun d s1 => Q .nx en s1) (fun x s1 => E x en s1) := by
  unfold sExpr
  rw [wps_lift]
  rfl
theorem s_asg {F : En → M D} {g : D → En → M En} : (sAsg F g en st).Wp Q E ↔ (F en st).Wp (fun d s1 => (g d en s1).Wp (fun en' s2 => Q .nx en' s2) fun _ _ => False) (fun x s1 => E x en s1) := by
  unfold sAsg
  rw [wps_lift]
  constructor
  · intro h
    refine wp_mono h (fun k s1 q => ?_) fun _ _ z => z
    cases e : g k en s1 with
    | ok a b => rw [e] at q; exact q
    | err a b => rw [e] at q; exact q
    | bad => rw [e] at q; exact q
  · intro h
    refine wp_mono h (fun k s1 q => ?_) fun _ _ z => z
    cases e : g k en s1 with
    | ok a b => rw [e] at q; exact q
    | err a b => rw [e] at q; exact q
    | bad => rw [e] at q; exact q
theorem g_name {i : Nat} {d : D} {Q : En → Sto → Prop} {E : Exn → Sto → Prop} : (gtName i d en st).Wp Q E ↔ Q (en.set i (some d)) st := Iff.rfl
theorem g_nil {Q : En → Sto → Prop} {E : Exn → Sto → Prop} : (gtNil [] en st).Wp Q E ↔ Q en st := Iff.rfl
theorem g_cons {g : D → En → M En} {r : List D → En → M En} {d : D} {ds : List D} {Q : En → Sto → Prop} {E : Exn → Sto → Prop} : (gtCons g r (d :: ds) en st).Wp Q E ↔ (g d en st).Wp (fun en1 s1 => (r ds en1 s1).Wp Q E) E := by
  show ((g d en >>= fun en' => r ds en') st).Wp Q E ↔ _
  rw [wp_bind]
theorem g_tup {n : Nat} {g : List D → En → M En} {ds : List D} {Q : En → Sto → Prop} {E : Exn → Sto → Prop} : (gtTup n g (.tup ds) en st).Wp Q E ↔ ds.length = n ∧ (g ds en st).Wp Q E := by
  show ((if ds.length = n then g ds en else bad) st).Wp Q E ↔ _
  split
  · rename_i h; exact ⟨fun q => ⟨h, q⟩, fun q => q.2⟩
  · rename_i h; exact ⟨fun q => q.elim, fun q => (h q.1).elim⟩
theorem s_par {i j : Nat} {F : En → M (List D)} : (sPar i j F en st).Wp Q E ↔ (F en st).Wp (fun ds s1 => ∃ a b, ds = [a, b] ∧ Q .nx ((en.set i (some a)).set j (some b)) s1) (fun x s1 => E x en s1) := by
  unfold sPar
  rw [wps_lift]
  constructor
  · intro h
    refine wp_mono h (fun k s1 q => ?_) fun _ _ z => z
    split at q
    · exact ⟨_, _, rfl, q⟩
    · exact q.elim
  · intro h
    refine wp_mono h (fun k s1 ⟨a, b, e, q⟩ => ?_) fun _ _ z => z
    subst e
    exact q
theorem s_raise {nm fn : Str} {F : En → M (List D)} : (sRaise nm fn F en st).Wp Q E ↔ (F en st).Wp (fun ds s1 => ∃ a, ds = [a] ∧ E ⟨nm, [(fn, a)]⟩ en s1) (fun x s1 => E x en s1) := by
  unfold sRaise
  rw [wps_lift]
  constructor
  · intro h
    refine wp_mono h (fun k s1 q => ?_) fun _ _ z => z
    split at q
    · exact ⟨_, rfl, q⟩
    · exact q.elim
  · intro h
    refine wp_mono h (fun k s1 ⟨a, e, q⟩ => ?_) fun _ _ z => z
    subst e
    exact q
theorem m_fn {n : Nat} {B : FS} {ds : List D} {Q : D → Sto → Prop} {E : Exn → Sto → Prop} : (fnM n B ds st).Wp Q E ↔ (B (ds.map some ++ List.replicate (n - ds.length) none) st).Wp (fun fl _ s1 => match fl with
    | .nx => Q .non s1
    | .rt d => Q d s1
    | _ => False) (fun x _ s1 => E x s1) := by
  unfold fnM
  cases B (ds.map some ++ List.replicate (n - ds.length) none) st with
  | bad => exact Iff.rfl
  | err x en' st' => exact Iff.rfl
  | ok fl en' st' => cases fl <;> exact Iff.rfl
end
/-! numbers and tests of values -/
section
variable {Q : D → Sto → Prop} {E : Exn → Sto → Prop} {st : Sto}
theorem v_add {i j : Int} : (gAdd (.int i) (.int j) st).Wp Q E ↔ Q (.int (i + j)) st := Iff.rfl
theorem v_sub {i j : Int} : (gSub (.int i) (.int j) st).Wp Q E ↔ Q (.int (i - j)) st := Iff.rfl
theorem v_neg {i : Int} : (gNeg (.int i) st).Wp Q E ↔ Q (.int (-i)) st := Iff.rfl
theorem v_lt {i j : Int} : (gLt (.int i) (.int j) st).Wp Q E ↔ Q (.bl (decide (i < j))) st := Iff.rfl
theorem v_le {i j : Int} : (gLe (.int i) (.int j) st).Wp Q E ↔ Q (.bl (decide (i ≤ j))) st := Iff.rfl
theorem v_gt {i j : Int} : (gGt (.int i) (.int j) st).Wp Q E ↔ Q (.bl (decide (j < i))) st := Iff.rfl
theorem v_ge {i j : Int} : (gGe (.int i) (.int j) st).Wp Q E ↔ Q (.bl (decide (j ≤ i))) st := Iff.rfl
theorem v_mod {i j : Int} : (gMod (.int i) (.int j) st).Wp Q E ↔ 0 < j ∧ Q (.int (i % j)) st := by
  show ((if 0 < j then _ else _ : M D) st).Wp Q E ↔ _
  split
  · rename_i h; exact ⟨fun q => ⟨h, q⟩, fun q => q.2⟩
  · rename_i h; exact ⟨fun q => q.elim, fun q => (h q.1).elim⟩
theorem v_fdiv {i j : Int} : (gFdiv (.int i) (.int j) st).Wp Q E ↔ (0 < j ∧ j.natAbs.log2 < 9000) ∧ Q (.int (i / j)) st := by
  show ((if 0 < j ∧ j.natAbs.log2 < 9000 then _ else _ : M D) st).Wp Q E ↔ _
  split
  · rename_i h; exact ⟨fun q => ⟨h, q⟩, fun q => q.2⟩
  · rename_i h; exact ⟨fun q => q.elim, fun q => (h q.1).elim⟩
theorem v_mul {i j : Int} : (gMul (.int i) (.int j) st).Wp Q E ↔ mulOk i j ∧ Q (.int (i * j)) st := by
  show ((if mulOk i j then _ else _ : M D) st).Wp Q E ↔ _
  split
  · rename_i h; exact ⟨fun q => ⟨h, q⟩, fun q => q.2⟩
  · rename_i h; exact ⟨fun q => q.elim, fun q => (h q.1).elim⟩
theorem v_int {i : Int} : (gInt (.int i) st).Wp Q E ↔ Q (.int i) st := Iff.rfl
theorem v_abs {i : Int} : (gAbs (.int i) st).Wp Q E ↔ Q (.int (if i < 0 then -i else i)) st := Iff.rfl
theorem v_max {i j : Int} : (bMax [.int i, .int j] st).Wp Q E ↔ Q (.int (if j > i then j else i)) st := Iff.rfl
theorem v_min {i j : Int} : (bMin [.int i, .int j] st).Wp Q E ↔ Q (.int (if j < i then j else i)) st := Iff.rfl
theorem v_isN {d : D} : (gIsN d .non st).Wp Q E ↔ Q (.bl d.isNon) st := Iff.rfl
theorem v_notN {d : D} : (gNotN d .non st).Wp Q E ↔ Q (.bl (!d.isNon)) st := Iff.rfl
theorem v_isB {d : D} {b : Bool} : (gIsB d (.bl b) st).Wp Q E ↔ Q (.bl (d.isBl b)) st := Iff.rfl
theorem v_not {b : Bool} : (gNot (.bl b) st).Wp Q E ↔ Q (.bl (!b)) st := Iff.rfl
theorem v_len_t {xs : List D} : (gLen (.tup xs) st).Wp Q E ↔ Q (.int xs.length) st := Iff.rfl
theorem v_len_l {i : Nat} {xs : List D} (h : st[i]? = some (.lst xs)) : (gLen (.ref i) st).Wp Q E ↔ Q (.int xs.length) st := by
  show (lenAt i st).Wp Q E ↔ _
  unfold lenAt
  rw [h]
  exact Iff.rfl
theorem v_len_d {i : Nat} {xs : List (Key × D)} (h : st[i]? = some (.dct xs)) : (gLen (.ref i) st).Wp Q E ↔ Q (.int xs.length) st := by
  show (lenAt i st).Wp Q E ↔ _
  unfold lenAt
  rw [h]
  exact Iff.rfl
theorem v_cmp {f : Bool → Bool} {a b : D} {x y : PyData} (ha : py st pyDeep a = some x) (hb : py st pyDeep b = some y) (h1 : SeqAt.shaped x = true) (h2 : SeqAt.shaped y = true) : (gCmpD f a b st).Wp Q E ↔ Q (.bl (f (PyData.eqv x y))) st := by
  unfold gCmpD
  rw [ha, hb]
  dsimp only
  rw [if_pos ⟨h1, h2⟩]
  exact Iff.rfl
theorem shaped_int {i : Int} : SeqAt.shaped (.int i) = true := rfl
theorem py_int {n : Nat} {i : Int} : py st n (.int i) = some (.int i) := by cases n <;> rfl
theorem py_bl {n : Nat} {b : Bool} : py st n (.bl b) = some (.bool b) := by cases n <;> rfl
theorem v_eq_i {i j : Int} : (gEq (.int i) (.int j) st).Wp Q E ↔ Q (.bl (decide (i = j))) st := by
  unfold gEq
  rw [v_cmp py_int py_int rfl rfl]
  have e : PyData.eqv (.int i) (.int j) = decide (i = j) := by
    show (i == j) = _
    rfl
  rw [e]
  exact Iff.rfl
theorem v_ne_i {i j : Int} : (gNe (.int i) (.int j) st).Wp Q E ↔ Q (.bl (!decide (i = j))) st := by
  unfold gNe
  rw [v_cmp py_int py_int rfl rfl]
  have e : PyData.eqv (.int i) (.int j) = decide (i = j) := by
    show (i == j) = _
    rfl
  rw [e]
theorem v_eq_b {i j : Bool} : (gEq (.bl i) (.bl j) st).Wp Q E ↔ Q (.bl (decide (i = j))) st := by
  unfold gEq
  rw [v_cmp py_bl py_bl rfl rfl]
  have e : PyData.eqv (.bool i) (.bool j) = decide (i = j) := by cases i <;> cases j <;> rfl
  rw [e]
  exact Iff.rfl
theorem v_isi {T k : String} {b : Bool} {d : D} (h : tyName st d = some k) (hb : kitB k T = some b) : (gIsi T d st).Wp Q E ↔ Q (.bl b) st := by
  unfold gIsi
  rw [h]
  dsimp only
  rw [hb]
  exact Iff.rfl
theorem v_ix_t {xs : List D} {i : Int} : (gIdx (.tup xs) (.int i) st).Wp Q E ↔ ∃ d, atI xs i = some d ∧ Q d st := by
  show (gIdxL xs (.int i) st).Wp Q E ↔ _
  unfold gIdxL
  dsimp only
  cases atI xs i with
  | none => exact ⟨fun q => q.elim, fun ⟨_, h, _⟩ => nomatch h⟩
  | some d => exact ⟨fun q => ⟨d, rfl, q⟩, fun ⟨_, h, q⟩ => by cases h; exact q⟩
theorem v_ix_l {xs : List D} {j : Nat} {i : Int} (h : st[j]? = some (.lst xs)) : (gIdx (.ref j) (.int i) st).Wp Q E ↔ ∃ d, atI xs i = some d ∧ Q d st := by
  show ((getSt >>= fun s => gIdxO s[j]? (.int i)) st).Wp Q E ↔ _
  rw [wp_bind]
  show (gIdxO st[j]? (.int i) st).Wp Q E ↔ _
  rw [h]
  exact v_ix_t
theorem v_ix_r {xs : List D} {j : Nat} {i : Int} (h : st[j]? = some (.ro xs)) : (gIdx (.ref j) (.int i) st).Wp Q E ↔ ∃ d, atI xs i = some d ∧ Q d st := by
  show ((getSt >>= fun s => gIdxO s[j]? (.int i)) st).Wp Q E ↔ _
  rw [wp_bind]
  show (gIdxO st[j]? (.int i) st).Wp Q E ↔ _
  rw [h]
  exact v_ix_t
theorem v_len_r {i : Nat} {xs : List D} (h : st[i]? = some (.ro xs)) : (gLen (.ref i) st).Wp Q E ↔ Q (.int xs.length) st := by
  show (lenAt i st).Wp Q E ↔ _
  unfold lenAt
  rw [h]
  exact Iff.rfl
theorem atI_nat {xs : List D} {n : Nat} {d : D} (h : xs[n]? = some d) : atI xs (n : Int) = some d := by
  unfold atI ixN
  have hl : n < xs.length := (List.getElem?_eq_some_iff.mp h).1
  rw [if_pos (by omega), if_pos (by omega)]
  simpa using h
end
/-! kinds -/
theorem k_int_int : kitB "int" "int" = some true := by decide +kernel
theorem k_int_bool : kitB "int" "bool" = some false := by decide +kernel
theorem k_int_tuple : kitB "int" "tuple" = some false := by decide +kernel
theorem k_int_str : kitB "int" "str" = some false := by decide +kernel
theorem k_bool_int : kitB "bool" "int" = some true := by decide +kernel
theorem k_bool_bool : kitB "bool" "bool" = some true := by decide +kernel
theorem k_bool_tuple : kitB "bool" "tuple" = some false := by decide +kernel
theorem k_bool_str : kitB "bool" "str" = some false := by decide +kernel
theorem k_str_int : kitB "str" "int" = some false := by decide +kernel
theorem k_str_bool : kitB "str" "bool" = some false := by decide +kernel
theorem k_str_tuple : kitB "str" "tuple" = some false := by decide +kernel
theorem k_str_str : kitB "str" "str" = some true := by decide +kernel
theorem k_tuple_int : kitB "tuple" "int" = some false := by decide +kernel
theorem k_tuple_tuple : kitB "tuple" "tuple" = some true := by decide +kernel
theorem k_non_int : kitB "NoneType" "int" = some false := by decide +kernel
theorem k_non_tuple : kitB "NoneType" "tuple" = some false := by decide +kernel
theorem k_non_str : kitB "NoneType" "str" = some false := by decide +kernel
theorem k_list_int : kitB "list" "int" = some false := by decide +kernel
theorem k_list_tuple : kitB "list" "tuple" = some false := by decide +kernel
/-! loops -/
section
variable {Q : Fl → En → Sto → Prop} {E : Exn → En → Sto → Prop} {st : Sto} {en : En}
theorem s_for {I : En → M (List D × Watch)} {G : D → En → M En} {B : FS} : (sFor I G B en st).Wp Q E ↔ (I en st).Wp (fun a s1 => (forL G B a.2 a.1 en s1).Wp Q E) (fun x s1 => E x en s1) := by
  unfold sFor
  rw [wps_lift]
/-- a loop by its invariant: done, to come -/
theorem for_inv {G : D → En → M En} {B : FS} {w : Watch} {xs : List D} (J : List D → List D → En → Sto → Prop) (h0 : J [] xs en st) (hw : ∀ a b en st, J a b en st → stays w st)
    (step : ∀ a d b en st, xs = a ++ d :: b → J a (d :: b) en st → (G d en st).Wp (fun en1 s1 => (B en1 s1).Wp (fun fl en2 s2 => match fl with
      | .nx => J (a ++ [d]) b en2 s2
      | .ct => J (a ++ [d]) b en2 s2
      | .bk => Q .nx en2 s2
      | .rt v => Q (.rt v) en2 s2) E) fun _ _ => False) (hq : ∀ en st, J xs [] en st → Q .nx en st) : (forL G B w xs en st).Wp Q E := by
  suffices key : ∀ (b a : List D) (en : En) (st : Sto), xs = a ++ b → J a b en st → (forL G B w b en st).Wp Q E from key xs [] en st rfl h0
  intro b
  induction b with
  | nil =>
    intro a en st e j
    rw [List.append_nil] at e
    subst e
    unfold forL
    rw [if_pos (hw _ _ _ _ j)]
    exact hq _ _ j
  | cons d b ih =>
    intro a en st e j
    unfold forL
    rw [if_pos (hw _ _ _ _ j)]
    have z := step a d b en st e j
    cases eg : G d en st with
    | bad => rw [eg] at z; exact z.elim
    | err x s1 => rw [eg] at z; exact z.elim
    | ok en1 s1 =>
      rw [eg] at z
      have z : (B en1 s1).Wp _ E := z
      dsimp only
      cases eb : B en1 s1 with
      | bad => rw [eb] at z; exact z
      | err x en2 s2 => rw [eb] at z; exact z
      | ok fl en2 s2 =>
        rw [eb] at z
        have e2 : xs = (a ++ [d]) ++ b := by rw [e, List.append_assoc]; rfl
        cases fl with
        | nx => exact ih _ _ _ e2 z
        | ct => exact ih _ _ _ e2 z
        | bk => exact z
        | rt v => exact z
/-- a comprehension whose parts are pure -/
theorem comp_pure {G : D → En → M En} {T : En → M Bool} {F : En → M D} {w : Watch} (t : D → Bool) (v : D → D) (xs : List D) {Q : List D → Sto → Prop} {E : Exn → Sto → Prop} (hs : stays w st)
    (h : ∀ d ∈ xs, (G d en st).Wp (fun en1 s1 => s1 = st ∧ (T en1 st).Wp (fun b s2 => s2 = st ∧ b = t d ∧ (b = true → (F en1 st).Wp (fun y s3 => s3 = st ∧ y = v d) fun _ _ => False)) fun _ _ => False) fun _ _ => False) :
    ∀ acc : List D, acc.length + xs.length ≤ sizeLine → Q (acc ++ (xs.filter t).map v) st → (compL en G T F w xs acc st).Wp Q E := by
  induction xs with
  | nil =>
    intro acc _ q
    unfold compL
    rw [if_pos hs]
    rw [List.filter_nil, List.map_nil, List.append_nil] at q
    exact q
  | cons d xs ih =>
    intro acc hl q
    unfold compL
    rw [if_pos hs]
    rw [wp_bind, wp_noErr]
    refine wp_mono (h d (List.mem_cons_self ..)) (fun en1 s1 ⟨e1, z⟩ => ?_) fun _ _ z => z.elim
    subst e1
    rw [wp_bind, wp_noErr]
    refine wp_mono z (fun b s2 ⟨e2, e3, z⟩ => ?_) fun _ _ z => z.elim
    subst e2
    rw [List.length_cons] at hl
    have ih' := ih fun d hd => h d (List.mem_cons_of_mem _ hd)
    cases b with
    | true =>
      rw [if_pos rfl, wp_bind, wp_noErr]
      refine wp_mono (z rfl) (fun y s3 ⟨e4, e5⟩ => ?_) fun _ _ z => z.elim
      subst e4 e5
      rw [wp_ite, if_pos (by omega)]
      refine ih' _ (by rw [List.length_append, List.length_singleton]; omega) ?_
      rw [List.filter_cons, ← e3] at q
      simpa using q
    | false =>
      rw [if_neg (by simp)]
      refine ih' _ (by omega) ?_
      rw [List.filter_cons, ← e3] at q
      simpa using q
theorem m_comp {I : En → M (List D × Watch)} {vs : List Nat} {G : D → En → M En} {T : En → M Bool} {F : En → M D} {Q : List D → Sto → Prop} {E : Exn → Sto → Prop} : (fComp I vs G T F en st).Wp Q E ↔ (I en st).Wp (fun a s1 => (compL (wipeD en vs) G T F a.2 a.1 [] s1).Wp Q E) E := by
  unfold fComp
  rw [wp_bind]
end
end Mir
end part_P0
section part_K78
set_option maxHeartbeats 0
namespace K78
open PySem PySem.Spec PyProof.Rows L2 Mir
def top (i : Nat) : Stmt := PySem.Challenge.pw_alikeatrest_k78_what_is_a_net.main.body.getD i (.Pass ⟨0, 0, 0, 0⟩)
abbrev s_is_int : Stmt := top 7
abbrev s_is_number : Stmt := top 8
abbrev s_is_tuple : Stmt := top 9
abbrev s_is_way : Stmt := top 13
abbrev s_are_ways : Stmt := top 14
abbrev s_check_net : Stmt := top 15
abbrev s_ways_at : Stmt := top 16
abbrev s_is_rooted : Stmt := top 17
abbrev s_is_mutual : Stmt := top 18
abbrev s__law_box : Stmt := top 20
abbrev s__law_take : Stmt := top 21
abbrev s__law_pick : Stmt := top 22
abbrev s__law_same : Stmt := top 23
abbrev s__law_net : Stmt := top 24
abbrev s__law_goal : Stmt := top 25
abbrev s__law_mutual : Stmt := top 26
abbrev s__law_ways : Stmt := top 27
abbrev s__law_rooted : Stmt := top 28
abbrev s__law_told : Stmt := top 29
abbrev s__law_bent : Stmt := top 30
abbrev s__law_twice : Stmt := top 31
abbrev s_law : Stmt := top 32
def d_is_int : He.DefD := ⟨("is_int", none), "is_int", "is_int", defArgs s_is_int, defBody s_is_int, defScope s_is_int, [], []⟩
def d_is_number : He.DefD := ⟨("is_number", none), "is_number", "is_number", defArgs s_is_number, defBody s_is_number, defScope s_is_number, [.int 0, .non], []⟩
def d_is_tuple : He.DefD := ⟨("is_tuple", none), "is_tuple", "is_tuple", defArgs s_is_tuple, defBody s_is_tuple, defScope s_is_tuple, [.non], []⟩
def d_is_way : He.DefD := ⟨("is_way", none), "is_way", "is_way", defArgs s_is_way, defBody s_is_way, defScope s_is_way, [], []⟩
def d_are_ways : He.DefD := ⟨("are_ways", none), "are_ways", "are_ways", defArgs s_are_ways, defBody s_are_ways, defScope s_are_ways, [], []⟩
def d_check_net : He.DefD := ⟨("check_net", none), "check_net", "check_net", defArgs s_check_net, defBody s_check_net, defScope s_check_net, [], []⟩
def d_ways_at : He.DefD := ⟨("ways_at", none), "ways_at", "ways_at", defArgs s_ways_at, defBody s_ways_at, defScope s_ways_at, [], []⟩
def d_is_rooted : He.DefD := ⟨("is_rooted", none), "is_rooted", "is_rooted", defArgs s_is_rooted, defBody s_is_rooted, defScope s_is_rooted, [], []⟩
def d_is_mutual : He.DefD := ⟨("is_mutual", none), "is_mutual", "is_mutual", defArgs s_is_mutual, defBody s_is_mutual, defScope s_is_mutual, [], []⟩
def d__law_box : He.DefD := ⟨("_law_box", none), "_law_box", "_law_box", defArgs s__law_box, defBody s__law_box, defScope s__law_box, [], []⟩
def d__law_take : He.DefD := ⟨("_law_take", none), "_law_take", "_law_take", defArgs s__law_take, defBody s__law_take, defScope s__law_take, [], []⟩
def d__law_pick : He.DefD := ⟨("_law_pick", none), "_law_pick", "_law_pick", defArgs s__law_pick, defBody s__law_pick, defScope s__law_pick, [], []⟩
def d__law_same : He.DefD := ⟨("_law_same", none), "_law_same", "_law_same", defArgs s__law_same, defBody s__law_same, defScope s__law_same, [], []⟩
def d__law_net : He.DefD := ⟨("_law_net", none), "_law_net", "_law_net", defArgs s__law_net, defBody s__law_net, defScope s__law_net, [], []⟩
def d__law_goal : He.DefD := ⟨("_law_goal", none), "_law_goal", "_law_goal", defArgs s__law_goal, defBody s__law_goal, defScope s__law_goal, [], []⟩
def d__law_mutual : He.DefD := ⟨("_law_mutual", none), "_law_mutual", "_law_mutual", defArgs s__law_mutual, defBody s__law_mutual, defScope s__law_mutual, [], []⟩
def d__law_ways : He.DefD := ⟨("_law_ways", none), "_law_ways", "_law_ways", defArgs s__law_ways, defBody s__law_ways, defScope s__law_ways, [], []⟩
def d__law_rooted : He.DefD := ⟨("_law_rooted", none), "_law_rooted", "_law_rooted", defArgs s__law_rooted, defBody s__law_rooted, defScope s__law_rooted, [], []⟩
def d__law_told : He.DefD := ⟨("_law_told", none), "_law_told", "_law_told", defArgs s__law_told, defBody s__law_told, defScope s__law_told, [], []⟩
def d__law_bent : He.DefD := ⟨("_law_bent", none), "_law_bent", "_law_bent", defArgs s__law_bent, defBody s__law_bent, defScope s__law_bent, [], []⟩
def d__law_twice : He.DefD := ⟨("_law_twice", none), "_law_twice", "_law_twice", defArgs s__law_twice, defBody s__law_twice, defScope s__law_twice, [], []⟩
def d_law : He.DefD := ⟨("law", none), "law", "law", defArgs s_law, defBody s_law, defScope s_law, [], []⟩
def x_BadWeb : XD := ⟨"BadWeb", "at", "no such web", "BadWeb.__init__", ⟨⟨6, 17, 6, 21⟩, ⟨6, 23, 6, 25⟩, ⟨7, 8, 7, 13⟩, ⟨7, 8, 7, 15⟩, ⟨7, 8, 7, 24⟩, ⟨7, 25, 7, 38⟩, ⟨7, 8, 7, 39⟩, ⟨8, 8, 8, 12⟩, ⟨8, 8, 8, 15⟩, ⟨8, 18, 8, 20⟩, ⟨8, 8, 8, 20⟩⟩⟩
def x_BadPlace : XD := ⟨"BadPlace", "at", "no such place", "BadPlace.__init__", ⟨⟨11, 17, 11, 21⟩, ⟨11, 23, 11, 25⟩, ⟨12, 8, 12, 13⟩, ⟨12, 8, 12, 15⟩, ⟨12, 8, 12, 24⟩, ⟨12, 25, 12, 40⟩, ⟨12, 8, 12, 41⟩, ⟨13, 8, 13, 12⟩, ⟨13, 8, 13, 15⟩, ⟨13, 18, 13, 20⟩, ⟨13, 8, 13, 20⟩⟩⟩
def x_BadNet : XD := ⟨"BadNet", "at", "no such net", "BadNet.__init__", ⟨⟨16, 17, 16, 21⟩, ⟨16, 23, 16, 25⟩, ⟨17, 8, 17, 13⟩, ⟨17, 8, 17, 15⟩, ⟨17, 8, 17, 24⟩, ⟨17, 25, 17, 38⟩, ⟨17, 8, 17, 39⟩, ⟨18, 8, 18, 12⟩, ⟨18, 8, 18, 15⟩, ⟨18, 18, 18, 20⟩, ⟨18, 8, 18, 20⟩⟩⟩
def x_Refused : XD := ⟨"Refused", "value", "this is not to be had", "Refused.__init__", ⟨⟨21, 17, 21, 21⟩, ⟨21, 23, 21, 28⟩, ⟨22, 8, 22, 13⟩, ⟨22, 8, 22, 15⟩, ⟨22, 8, 22, 24⟩, ⟨22, 25, 22, 48⟩, ⟨22, 8, 22, 49⟩, ⟨23, 8, 23, 12⟩, ⟨23, 8, 23, 18⟩, ⟨23, 21, 23, 26⟩, ⟨23, 8, 23, 26⟩⟩⟩
def fa : List He.Fa := [.glo "is_int", .glo "is_number", .glo "is_tuple", .glo "is_way", .glo "are_ways", .glo "check_net", .glo "ways_at", .glo "is_rooted", .glo "is_mutual", .glo "_law_box", .glo "_law_take", .glo "_law_pick", .glo "_law_same", .glo "_law_net", .glo "_law_goal", .glo "_law_mutual", .glo "_law_ways", .glo "_law_rooted", .glo "_law_told", .glo "_law_bent", .glo "_law_twice", .glo "law", .int "MOST_PLACES" 7, .int "MOST_WAYS" 14, .free "ValueError", .free "abs", .free "bool", .free "int", .free "isinstance", .free "len", .free "list", .free "max", .free "min", .free "range", .free "sorted", .free "str", .free "super", .free "tuple", .free "zip", .glo "OwnError", .keep "OwnError", .glo "BadWeb", .keep "BadWeb", .glo "BadPlace", .keep "BadPlace", .glo "BadNet", .keep "BadNet", .glo "Refused", .keep "Refused"]
def fn : List He.DefD := [d_is_int, d_is_number, d_is_tuple, d_is_way, d_are_ways, d_check_net, d_ways_at, d_is_rooted, d_is_mutual, d__law_box, d__law_take, d__law_pick, d__law_same, d__law_net, d__law_goal, d__law_mutual, d__law_ways, d__law_rooted, d__law_told, d__law_bent, d__law_twice, d_law]
def xs : List XD := [x_BadWeb, x_BadPlace, x_BadNet, x_Refused]
def rs : List XR := [⟨"BadWeb", "OwnError", true⟩, ⟨"BadWeb", "BadWeb", true⟩, ⟨"BadWeb", "BadPlace", false⟩, ⟨"BadWeb", "BadNet", false⟩, ⟨"BadWeb", "Refused", false⟩, ⟨"BadPlace", "OwnError", true⟩, ⟨"BadPlace", "BadWeb", false⟩, ⟨"BadPlace", "BadPlace", true⟩, ⟨"BadPlace", "BadNet", false⟩, ⟨"BadPlace", "Refused", false⟩, ⟨"BadNet", "OwnError", true⟩, ⟨"BadNet", "BadWeb", false⟩, ⟨"BadNet", "BadPlace", false⟩, ⟨"BadNet", "BadNet", true⟩, ⟨"BadNet", "Refused", false⟩, ⟨"Refused", "OwnError", true⟩, ⟨"Refused", "BadWeb", false⟩, ⟨"Refused", "BadPlace", false⟩, ⟨"Refused", "BadNet", false⟩, ⟨"Refused", "Refused", true⟩]
abbrev wh : What := ⟨fa, fn, xs, rs, PySem.Challenge.pw_alikeatrest_k78_what_is_a_net.main.file⟩
abbrev R : PySem.W.OpenRow := PySem.W.OpenLaw.row PySem.Challenge.rw_alikeatrest_k78_what_is_a_net
abbrev hk : PySem.W.Hook := hookM 6 wh
def ob (s : PySem.W.SharedT) : AlM := obsM 6 wh (HandSHeadRun.getT s)
theorem ob_eq (s : PySem.W.SharedT) : ob s = hk.obs s.abs := obsM_eq (HandSHeadRun.getT_eq s)
theorem run (w : World) : HandSHeadRun.RunEq R (PySem.W.view R.prog [32]) hk ob 4000 ["is_int", "is_number", "is_tuple", "is_way", "are_ways", "check_net", "ways_at", "is_rooted", "is_mutual", "_law_box", "_law_take", "_law_pick", "_law_same", "_law_net", "_law_goal", "_law_mutual", "_law_ways", "_law_rooted", "_law_told", "_law_bent", "_law_twice", "MOST_PLACES", "MOST_WAYS", "OwnError", "BadWeb", "BadPlace", "BadNet", "Refused"] w := by
  intro os
  kernel_rfl
/-- what the top has written -/
structure Cn (w : World) (K : PySem.W.Frag) (mg : Str → Option Value) where
  fd_is_int : FuncData
  F_is_int : FunD K "is_int" "is_int" (defArgs s_is_int) (defBody s_is_int) (defScope s_is_int) [] [] (He.ga K "is_int") fd_is_int
  m_is_int : mg "is_int" = some (.ref (He.ga K "is_int"))
  fd_is_number : FuncData
  F_is_number : FunD K "is_number" "is_number" (defArgs s_is_number) (defBody s_is_number) (defScope s_is_number) [.int 0, .non] [] (He.ga K "is_number") fd_is_number
  m_is_number : mg "is_number" = some (.ref (He.ga K "is_number"))
  fd_is_tuple : FuncData
  F_is_tuple : FunD K "is_tuple" "is_tuple" (defArgs s_is_tuple) (defBody s_is_tuple) (defScope s_is_tuple) [.non] [] (He.ga K "is_tuple") fd_is_tuple
  m_is_tuple : mg "is_tuple" = some (.ref (He.ga K "is_tuple"))
  fd_is_way : FuncData
  F_is_way : FunD K "is_way" "is_way" (defArgs s_is_way) (defBody s_is_way) (defScope s_is_way) [] [] (He.ga K "is_way") fd_is_way
  m_is_way : mg "is_way" = some (.ref (He.ga K "is_way"))
  fd_are_ways : FuncData
  F_are_ways : FunD K "are_ways" "are_ways" (defArgs s_are_ways) (defBody s_are_ways) (defScope s_are_ways) [] [] (He.ga K "are_ways") fd_are_ways
  m_are_ways : mg "are_ways" = some (.ref (He.ga K "are_ways"))
  fd_check_net : FuncData
  F_check_net : FunD K "check_net" "check_net" (defArgs s_check_net) (defBody s_check_net) (defScope s_check_net) [] [] (He.ga K "check_net") fd_check_net
  m_check_net : mg "check_net" = some (.ref (He.ga K "check_net"))
  fd_ways_at : FuncData
  F_ways_at : FunD K "ways_at" "ways_at" (defArgs s_ways_at) (defBody s_ways_at) (defScope s_ways_at) [] [] (He.ga K "ways_at") fd_ways_at
  m_ways_at : mg "ways_at" = some (.ref (He.ga K "ways_at"))
  fd_is_rooted : FuncData
  F_is_rooted : FunD K "is_rooted" "is_rooted" (defArgs s_is_rooted) (defBody s_is_rooted) (defScope s_is_rooted) [] [] (He.ga K "is_rooted") fd_is_rooted
  m_is_rooted : mg "is_rooted" = some (.ref (He.ga K "is_rooted"))
  fd_is_mutual : FuncData
  F_is_mutual : FunD K "is_mutual" "is_mutual" (defArgs s_is_mutual) (defBody s_is_mutual) (defScope s_is_mutual) [] [] (He.ga K "is_mutual") fd_is_mutual
  m_is_mutual : mg "is_mutual" = some (.ref (He.ga K "is_mutual"))
  fd__law_box : FuncData
  F__law_box : FunD K "_law_box" "_law_box" (defArgs s__law_box) (defBody s__law_box) (defScope s__law_box) [] [] (He.ga K "_law_box") fd__law_box
  m__law_box : mg "_law_box" = some (.ref (He.ga K "_law_box"))
  fd__law_take : FuncData
  F__law_take : FunD K "_law_take" "_law_take" (defArgs s__law_take) (defBody s__law_take) (defScope s__law_take) [] [] (He.ga K "_law_take") fd__law_take
  m__law_take : mg "_law_take" = some (.ref (He.ga K "_law_take"))
  fd__law_pick : FuncData
  F__law_pick : FunD K "_law_pick" "_law_pick" (defArgs s__law_pick) (defBody s__law_pick) (defScope s__law_pick) [] [] (He.ga K "_law_pick") fd__law_pick
  m__law_pick : mg "_law_pick" = some (.ref (He.ga K "_law_pick"))
  fd__law_same : FuncData
  F__law_same : FunD K "_law_same" "_law_same" (defArgs s__law_same) (defBody s__law_same) (defScope s__law_same) [] [] (He.ga K "_law_same") fd__law_same
  m__law_same : mg "_law_same" = some (.ref (He.ga K "_law_same"))
  fd__law_net : FuncData
  F__law_net : FunD K "_law_net" "_law_net" (defArgs s__law_net) (defBody s__law_net) (defScope s__law_net) [] [] (He.ga K "_law_net") fd__law_net
  m__law_net : mg "_law_net" = some (.ref (He.ga K "_law_net"))
  fd__law_goal : FuncData
  F__law_goal : FunD K "_law_goal" "_law_goal" (defArgs s__law_goal) (defBody s__law_goal) (defScope s__law_goal) [] [] (He.ga K "_law_goal") fd__law_goal
  m__law_goal : mg "_law_goal" = some (.ref (He.ga K "_law_goal"))
  fd__law_mutual : FuncData
  F__law_mutual : FunD K "_law_mutual" "_law_mutual" (defArgs s__law_mutual) (defBody s__law_mutual) (defScope s__law_mutual) [] [] (He.ga K "_law_mutual") fd__law_mutual
  m__law_mutual : mg "_law_mutual" = some (.ref (He.ga K "_law_mutual"))
  fd__law_ways : FuncData
  F__law_ways : FunD K "_law_ways" "_law_ways" (defArgs s__law_ways) (defBody s__law_ways) (defScope s__law_ways) [] [] (He.ga K "_law_ways") fd__law_ways
  m__law_ways : mg "_law_ways" = some (.ref (He.ga K "_law_ways"))
  fd__law_rooted : FuncData
  F__law_rooted : FunD K "_law_rooted" "_law_rooted" (defArgs s__law_rooted) (defBody s__law_rooted) (defScope s__law_rooted) [] [] (He.ga K "_law_rooted") fd__law_rooted
  m__law_rooted : mg "_law_rooted" = some (.ref (He.ga K "_law_rooted"))
  fd__law_told : FuncData
  F__law_told : FunD K "_law_told" "_law_told" (defArgs s__law_told) (defBody s__law_told) (defScope s__law_told) [] [] (He.ga K "_law_told") fd__law_told
  m__law_told : mg "_law_told" = some (.ref (He.ga K "_law_told"))
  fd__law_bent : FuncData
  F__law_bent : FunD K "_law_bent" "_law_bent" (defArgs s__law_bent) (defBody s__law_bent) (defScope s__law_bent) [] [] (He.ga K "_law_bent") fd__law_bent
  m__law_bent : mg "_law_bent" = some (.ref (He.ga K "_law_bent"))
  fd__law_twice : FuncData
  F__law_twice : FunD K "_law_twice" "_law_twice" (defArgs s__law_twice) (defBody s__law_twice) (defScope s__law_twice) [] [] (He.ga K "_law_twice") fd__law_twice
  m__law_twice : mg "_law_twice" = some (.ref (He.ga K "_law_twice"))
  fd_law : FuncData
  F_law : FunD K "law" "law" (defArgs s_law) (defBody s_law) (defScope s_law) [] [] (He.ga K "law") fd_law
  m_law : mg "law" = some (.ref (He.ga K "law"))
  i_MOST_PLACES : ∃ t, mg "MOST_PLACES" = some (.int 7 t)
  i_MOST_WAYS : ∃ t, mg "MOST_WAYS" = some (.int 14 t)
  z_ValueError : mg "ValueError" = none
  z_abs : mg "abs" = none
  z_bool : mg "bool" = none
  z_int : mg "int" = none
  z_isinstance : mg "isinstance" = none
  z_len : mg "len" = none
  z_list : mg "list" = none
  z_max : mg "max" = none
  z_min : mg "min" = none
  z_range : mg "range" = none
  z_sorted : mg "sorted" = none
  z_str : mg "str" = none
  z_super : mg "super" = none
  z_tuple : mg "tuple" = none
  z_zip : mg "zip" = none
  n_OwnError : mg "OwnError" = some (.ref (He.ga K "OwnError"))
  n_BadWeb : mg "BadWeb" = some (.ref (He.ga K "BadWeb"))
  n_BadPlace : mg "BadPlace" = some (.ref (He.ga K "BadPlace"))
  n_BadNet : mg "BadNet" = some (.ref (He.ga K "BadNet"))
  n_Refused : mg "Refused" = some (.ref (He.ga K "Refused"))
  T_BadWeb : ExT PySem.Challenge.pw_alikeatrest_k78_what_is_a_net K mg "BadWeb" "at" "no such web" "BadWeb.__init__" (He.ga K "BadWeb") (fI K x_BadWeb)
  T_BadPlace : ExT PySem.Challenge.pw_alikeatrest_k78_what_is_a_net K mg "BadPlace" "at" "no such place" "BadPlace.__init__" (He.ga K "BadPlace") (fI K x_BadPlace)
  T_BadNet : ExT PySem.Challenge.pw_alikeatrest_k78_what_is_a_net K mg "BadNet" "at" "no such net" "BadNet.__init__" (He.ga K "BadNet") (fI K x_BadNet)
  T_Refused : ExT PySem.Challenge.pw_alikeatrest_k78_what_is_a_net K mg "Refused" "value" "this is not to be had" "Refused.__init__" (He.ga K "Refused") (fI K x_Refused)
  errs : Errs K mg rs
theorem cn_of {w : World} {K : PySem.W.Frag} {h : Heap} {mg : Str → Option Value} (X : K.In h) (G : h.Ns mainGlobals mg) (c : wh.Says K) : Nonempty (Cn w K mg) := by
  obtain ⟨fd0, F0⟩ := c.d.def_ 0 (d := d_is_int) rfl
  obtain ⟨fd1, F1⟩ := c.d.def_ 1 (d := d_is_number) rfl
  obtain ⟨fd2, F2⟩ := c.d.def_ 2 (d := d_is_tuple) rfl
  obtain ⟨fd3, F3⟩ := c.d.def_ 3 (d := d_is_way) rfl
  obtain ⟨fd4, F4⟩ := c.d.def_ 4 (d := d_are_ways) rfl
  obtain ⟨fd5, F5⟩ := c.d.def_ 5 (d := d_check_net) rfl
  obtain ⟨fd6, F6⟩ := c.d.def_ 6 (d := d_ways_at) rfl
  obtain ⟨fd7, F7⟩ := c.d.def_ 7 (d := d_is_rooted) rfl
  obtain ⟨fd8, F8⟩ := c.d.def_ 8 (d := d_is_mutual) rfl
  obtain ⟨fd9, F9⟩ := c.d.def_ 9 (d := d__law_box) rfl
  obtain ⟨fd10, F10⟩ := c.d.def_ 10 (d := d__law_take) rfl
  obtain ⟨fd11, F11⟩ := c.d.def_ 11 (d := d__law_pick) rfl
  obtain ⟨fd12, F12⟩ := c.d.def_ 12 (d := d__law_same) rfl
  obtain ⟨fd13, F13⟩ := c.d.def_ 13 (d := d__law_net) rfl
  obtain ⟨fd14, F14⟩ := c.d.def_ 14 (d := d__law_goal) rfl
  obtain ⟨fd15, F15⟩ := c.d.def_ 15 (d := d__law_mutual) rfl
  obtain ⟨fd16, F16⟩ := c.d.def_ 16 (d := d__law_ways) rfl
  obtain ⟨fd17, F17⟩ := c.d.def_ 17 (d := d__law_rooted) rfl
  obtain ⟨fd18, F18⟩ := c.d.def_ 18 (d := d__law_told) rfl
  obtain ⟨fd19, F19⟩ := c.d.def_ 19 (d := d__law_bent) rfl
  obtain ⟨fd20, F20⟩ := c.d.def_ 20 (d := d__law_twice) rfl
  obtain ⟨fd21, F21⟩ := c.d.def_ 21 (d := d_law) rfl
  have hsup : mg "super" = none := He.free_ok X G (c.d.fact 36 (f := .free "super") rfl)
  have T_BadWeb := exB_ok (d := x_BadWeb) (P := PySem.Challenge.pw_alikeatrest_k78_what_is_a_net) X G (c.fx _ (by unfold wh xs; simp)) (c.xs _ (by unfold wh xs; simp)) hsup (by decide +kernel) (by decide) (by decide)
  have T_BadPlace := exB_ok (d := x_BadPlace) (P := PySem.Challenge.pw_alikeatrest_k78_what_is_a_net) X G (c.fx _ (by unfold wh xs; simp)) (c.xs _ (by unfold wh xs; simp)) hsup (by decide +kernel) (by decide) (by decide)
  have T_BadNet := exB_ok (d := x_BadNet) (P := PySem.Challenge.pw_alikeatrest_k78_what_is_a_net) X G (c.fx _ (by unfold wh xs; simp)) (c.xs _ (by unfold wh xs; simp)) hsup (by decide +kernel) (by decide) (by decide)
  have T_Refused := exB_ok (d := x_Refused) (P := PySem.Challenge.pw_alikeatrest_k78_what_is_a_net) X G (c.fx _ (by unfold wh xs; simp)) (c.xs _ (by unfold wh xs; simp)) hsup (by decide +kernel) (by decide) (by decide)
  refine ⟨{
    fd_is_int := fd0,
    F_is_int := F0,
    m_is_int := He.glo_ok X G (c.d.fact 0 (f := .glo "is_int") rfl),
    fd_is_number := fd1,
    F_is_number := F1,
    m_is_number := He.glo_ok X G (c.d.fact 1 (f := .glo "is_number") rfl),
    fd_is_tuple := fd2,
    F_is_tuple := F2,
    m_is_tuple := He.glo_ok X G (c.d.fact 2 (f := .glo "is_tuple") rfl),
    fd_is_way := fd3,
    F_is_way := F3,
    m_is_way := He.glo_ok X G (c.d.fact 3 (f := .glo "is_way") rfl),
    fd_are_ways := fd4,
    F_are_ways := F4,
    m_are_ways := He.glo_ok X G (c.d.fact 4 (f := .glo "are_ways") rfl),
    fd_check_net := fd5,
    F_check_net := F5,
    m_check_net := He.glo_ok X G (c.d.fact 5 (f := .glo "check_net") rfl),
    fd_ways_at := fd6,
    F_ways_at := F6,
    m_ways_at := He.glo_ok X G (c.d.fact 6 (f := .glo "ways_at") rfl),
    fd_is_rooted := fd7,
    F_is_rooted := F7,
    m_is_rooted := He.glo_ok X G (c.d.fact 7 (f := .glo "is_rooted") rfl),
    fd_is_mutual := fd8,
    F_is_mutual := F8,
    m_is_mutual := He.glo_ok X G (c.d.fact 8 (f := .glo "is_mutual") rfl),
    fd__law_box := fd9,
    F__law_box := F9,
    m__law_box := He.glo_ok X G (c.d.fact 9 (f := .glo "_law_box") rfl),
    fd__law_take := fd10,
    F__law_take := F10,
    m__law_take := He.glo_ok X G (c.d.fact 10 (f := .glo "_law_take") rfl),
    fd__law_pick := fd11,
    F__law_pick := F11,
    m__law_pick := He.glo_ok X G (c.d.fact 11 (f := .glo "_law_pick") rfl),
    fd__law_same := fd12,
    F__law_same := F12,
    m__law_same := He.glo_ok X G (c.d.fact 12 (f := .glo "_law_same") rfl),
    fd__law_net := fd13,
    F__law_net := F13,
    m__law_net := He.glo_ok X G (c.d.fact 13 (f := .glo "_law_net") rfl),
    fd__law_goal := fd14,
    F__law_goal := F14,
    m__law_goal := He.glo_ok X G (c.d.fact 14 (f := .glo "_law_goal") rfl),
    fd__law_mutual := fd15,
    F__law_mutual := F15,
    m__law_mutual := He.glo_ok X G (c.d.fact 15 (f := .glo "_law_mutual") rfl),
    fd__law_ways := fd16,
    F__law_ways := F16,
    m__law_ways := He.glo_ok X G (c.d.fact 16 (f := .glo "_law_ways") rfl),
    fd__law_rooted := fd17,
    F__law_rooted := F17,
    m__law_rooted := He.glo_ok X G (c.d.fact 17 (f := .glo "_law_rooted") rfl),
    fd__law_told := fd18,
    F__law_told := F18,
    m__law_told := He.glo_ok X G (c.d.fact 18 (f := .glo "_law_told") rfl),
    fd__law_bent := fd19,
    F__law_bent := F19,
    m__law_bent := He.glo_ok X G (c.d.fact 19 (f := .glo "_law_bent") rfl),
    fd__law_twice := fd20,
    F__law_twice := F20,
    m__law_twice := He.glo_ok X G (c.d.fact 20 (f := .glo "_law_twice") rfl),
    fd_law := fd21,
    F_law := F21,
    m_law := He.glo_ok X G (c.d.fact 21 (f := .glo "law") rfl),
    i_MOST_PLACES := He.int_ok X G (c.d.fact 22 (f := .int "MOST_PLACES" 7) rfl),
    i_MOST_WAYS := He.int_ok X G (c.d.fact 23 (f := .int "MOST_WAYS" 14) rfl),
    z_ValueError := He.free_ok X G (c.d.fact 24 (f := .free "ValueError") rfl),
    z_abs := He.free_ok X G (c.d.fact 25 (f := .free "abs") rfl),
    z_bool := He.free_ok X G (c.d.fact 26 (f := .free "bool") rfl),
    z_int := He.free_ok X G (c.d.fact 27 (f := .free "int") rfl),
    z_isinstance := He.free_ok X G (c.d.fact 28 (f := .free "isinstance") rfl),
    z_len := He.free_ok X G (c.d.fact 29 (f := .free "len") rfl),
    z_list := He.free_ok X G (c.d.fact 30 (f := .free "list") rfl),
    z_max := He.free_ok X G (c.d.fact 31 (f := .free "max") rfl),
    z_min := He.free_ok X G (c.d.fact 32 (f := .free "min") rfl),
    z_range := He.free_ok X G (c.d.fact 33 (f := .free "range") rfl),
    z_sorted := He.free_ok X G (c.d.fact 34 (f := .free "sorted") rfl),
    z_str := He.free_ok X G (c.d.fact 35 (f := .free "str") rfl),
    z_super := He.free_ok X G (c.d.fact 36 (f := .free "super") rfl),
    z_tuple := He.free_ok X G (c.d.fact 37 (f := .free "tuple") rfl),
    z_zip := He.free_ok X G (c.d.fact 38 (f := .free "zip") rfl),
    n_OwnError := He.glo_ok X G (c.d.fact 39 (f := .glo "OwnError") rfl),
    n_BadWeb := He.glo_ok X G (c.d.fact 41 (f := .glo "BadWeb") rfl),
    n_BadPlace := He.glo_ok X G (c.d.fact 43 (f := .glo "BadPlace") rfl),
    n_BadNet := He.glo_ok X G (c.d.fact 45 (f := .glo "BadNet") rfl),
    n_Refused := He.glo_ok X G (c.d.fact 47 (f := .glo "Refused") rfl),
    T_BadWeb := T_BadWeb,
    T_BadPlace := T_BadPlace,
    T_BadNet := T_BadNet,
    T_Refused := T_Refused,
    errs := ⟨c.rs, ?glo, ?exi⟩ }⟩
  case glo =>
    intro r hr
    have : r.x ∈ [("BadWeb" : Str), ("BadPlace" : Str), ("BadNet" : Str), ("Refused" : Str)] := by revert r; decide +kernel
    simp only [List.mem_cons, List.not_mem_nil, or_false] at this
    rcases this with z | z | z | z
    · rw [z]; exact T_BadWeb.gC
    · rw [z]; exact T_BadPlace.gC
    · rw [z]; exact T_BadNet.gC
    · rw [z]; exact T_Refused.gC
  case exi =>
    intro r hr
    have : r.x ∈ [("BadWeb" : Str), ("BadPlace" : Str), ("BadNet" : Str), ("Refused" : Str)] := by revert r; decide +kernel
    simp only [List.mem_cons, List.not_mem_nil, or_false] at this
    rcases this with z | z | z | z
    · rw [z]; exact T_BadWeb.i
    · rw [z]; exact T_BadPlace.i
    · rw [z]; exact T_BadNet.i
    · rw [z]; exact T_Refused.i
section
variable {w : World} {K : PySem.W.Frag} {mg : Str → Option Value} {base : Heap}
theorem b_is_int (c : Cn w K mg) : Binds K c.fd_is_int ["value"] [] := c.F_is_int.bindsN fun _ _ _ _ _ _ us hl => match us, hl with | [_], _ => rfl
theorem b_is_number_0 (c : Cn w K mg) : ∃ ds, Vals ([.int 0, .non] : List V) ds ∧ Binds K c.fd_is_number ["value", "least", "most"] ds := c.F_is_number.binds1 1 0 (by simp) rfl fun T kV doc pm an cdv ct us its hu hi => match us, its, hu, hi with | [_], [_, _], _, _ => ⟨_, rfl, rfl⟩
theorem b_is_number_1 (c : Cn w K mg) : ∃ ds, Vals ([.non] : List V) ds ∧ Binds K c.fd_is_number ["value", "least", "most"] ds := c.F_is_number.binds1 2 1 (by simp) rfl fun T kV doc pm an cdv ct us its hu hi => match us, its, hu, hi with | [_, _], [_, _], _, _ => ⟨_, rfl, rfl⟩
theorem b_is_number_2 (c : Cn w K mg) : ∃ ds, Vals ([] : List V) ds ∧ Binds K c.fd_is_number ["value", "least", "most"] ds := c.F_is_number.binds1 3 2 (by simp) rfl fun T kV doc pm an cdv ct us its hu hi => match us, its, hu, hi with | [_, _, _], [_, _], _, _ => ⟨_, rfl, rfl⟩
theorem b_is_tuple_0 (c : Cn w K mg) : ∃ ds, Vals ([.non] : List V) ds ∧ Binds K c.fd_is_tuple ["value", "many"] ds := c.F_is_tuple.binds1 1 0 (by simp) rfl fun T kV doc pm an cdv ct us its hu hi => match us, its, hu, hi with | [_], [_], _, _ => ⟨_, rfl, rfl⟩
theorem b_is_tuple_1 (c : Cn w K mg) : ∃ ds, Vals ([] : List V) ds ∧ Binds K c.fd_is_tuple ["value", "many"] ds := c.F_is_tuple.binds1 2 1 (by simp) rfl fun T kV doc pm an cdv ct us its hu hi => match us, its, hu, hi with | [_, _], [_], _, _ => ⟨_, rfl, rfl⟩
theorem b_is_way (c : Cn w K mg) : Binds K c.fd_is_way ["value", "many"] [] := c.F_is_way.bindsN fun _ _ _ _ _ _ us hl => match us, hl with | [_, _], _ => rfl
theorem b_are_ways (c : Cn w K mg) : Binds K c.fd_are_ways ["value", "many"] [] := c.F_are_ways.bindsN fun _ _ _ _ _ _ us hl => match us, hl with | [_, _], _ => rfl
theorem b_check_net (c : Cn w K mg) : Binds K c.fd_check_net ["value"] [] := c.F_check_net.bindsN fun _ _ _ _ _ _ us hl => match us, hl with | [_], _ => rfl
theorem b_ways_at (c : Cn w K mg) : Binds K c.fd_ways_at ["net", "place"] [] := c.F_ways_at.bindsN fun _ _ _ _ _ _ us hl => match us, hl with | [_, _], _ => rfl
theorem b_is_rooted (c : Cn w K mg) : Binds K c.fd_is_rooted ["net"] [] := c.F_is_rooted.bindsN fun _ _ _ _ _ _ us hl => match us, hl with | [_], _ => rfl
theorem b_is_mutual (c : Cn w K mg) : Binds K c.fd_is_mutual ["net"] [] := c.F_is_mutual.bindsN fun _ _ _ _ _ _ us hl => match us, hl with | [_], _ => rfl
theorem b__law_box (c : Cn w K mg) : Binds K c.fd__law_box ["script", "k"] [] := c.F__law_box.bindsN fun _ _ _ _ _ _ us hl => match us, hl with | [_, _], _ => rfl
theorem b__law_take (c : Cn w K mg) : Binds K c.fd__law_take ["box", "many"] [] := c.F__law_take.bindsN fun _ _ _ _ _ _ us hl => match us, hl with | [_, _], _ => rfl
theorem b__law_pick (c : Cn w K mg) : Binds K c.fd__law_pick ["box", "some"] [] := c.F__law_pick.bindsN fun _ _ _ _ _ _ us hl => match us, hl with | [_, _], _ => rfl
theorem b__law_same (c : Cn w K mg) : Binds K c.fd__law_same ["told", "due"] [] := c.F__law_same.bindsN fun _ _ _ _ _ _ us hl => match us, hl with | [_, _], _ => rfl
theorem b__law_net (c : Cn w K mg) : Binds K c.fd__law_net ["box", "places", "most"] [] := c.F__law_net.bindsN fun _ _ _ _ _ _ us hl => match us, hl with | [_, _, _], _ => rfl
theorem b__law_goal (c : Cn w K mg) : Binds K c.fd__law_goal ["box", "many", "place"] [] := c.F__law_goal.bindsN fun _ _ _ _ _ _ us hl => match us, hl with | [_, _, _], _ => rfl
theorem b__law_mutual (c : Cn w K mg) : Binds K c.fd__law_mutual ["box", "places", "most"] [] := c.F__law_mutual.bindsN fun _ _ _ _ _ _ us hl => match us, hl with | [_, _, _], _ => rfl
theorem b__law_ways (c : Cn w K mg) : Binds K c.fd__law_ways ["net", "place"] [] := c.F__law_ways.bindsN fun _ _ _ _ _ _ us hl => match us, hl with | [_, _], _ => rfl
theorem b__law_rooted (c : Cn w K mg) : Binds K c.fd__law_rooted ["net"] [] := c.F__law_rooted.bindsN fun _ _ _ _ _ _ us hl => match us, hl with | [_], _ => rfl
theorem b__law_told (c : Cn w K mg) : Binds K c.fd__law_told ["value", "named"] [] := c.F__law_told.bindsN fun _ _ _ _ _ _ us hl => match us, hl with | [_, _], _ => rfl
theorem b__law_bent (c : Cn w K mg) : Binds K c.fd__law_bent ["box", "net"] [] := c.F__law_bent.bindsN fun _ _ _ _ _ _ us hl => match us, hl with | [_, _], _ => rfl
theorem b__law_twice (c : Cn w K mg) : Binds K c.fd__law_twice ["net"] [] := c.F__law_twice.bindsN fun _ _ _ _ _ _ us hl => match us, hl with | [_], _ => rfl
theorem b_law (c : Cn w K mg) : Binds K c.fd_law ["script"] [] := c.F_law.bindsN fun _ _ _ _ _ _ us hl => match us, hl with | [_], _ => rfl
end
theorem sc__law_take : FnScope ["box", "many", "digit", "raw"] ["box", "many"] (defScope s__law_take) := ⟨rfl, rfl, rfl, by decide +kernel, rfl, by decide +kernel, by decide +kernel⟩
noncomputable def b__law_take_ : FS :=
  (sSeq (sIf (tE (fOp gGt (fOp gIdx (fVar 0) (fC (.int 0))) (fC (.int 0))))
  (sSeq (sAsg (fOp gMod (fThen gInt (fOp gIdx (fVar 0) (fC (.int 0)))) (fVar 1)) (gtName 2))
  (sSeq (sAsg (fOp gFdiv (fOp gIdx (fVar 0) (fC (.int 0))) (fVar 1)) (gtSub (fVar 0) (fC (.int 0))))
  (sRet (fVar 2))))
  sNx)
  (sSeq (sAsg (fOp gMod (fThen gInt (fOp gAdd (fOp gMul (fOp gIdx (fVar 0) (fC (.int 1))) (fC (.int 39373))) (fC (.int 181)))) (fC (.int 2147483647))) (gtName 3))
  (sSeq (sAsg (fOp gAdd (fOp gMod (fThen gInt (fOp gAdd (fOp gMul (fVar 3) (fC (.int 40692))) (fC (.int 71)))) (fC (.int 2147483563))) (fC (.int 1))) (gtSub (fVar 0) (fC (.int 1))))
  (sRet (fOp gMod (fThen gInt (fOp gFdiv (fOp gAdd (fOp gMul (fVar 3) (fC (.int 2147483629))) (fOp gIdx (fVar 0) (fC (.int 1)))) (fC (.int 8237)))) (fVar 1))))))
noncomputable def g__law_take : List D → M D := fnM 4 b__law_take_
theorem ok__law_take {w : World} {K : PySem.W.Frag} {mg : Str → Option Value} {base : Heap} (c : Cn w K mg) : Fn PySem.Challenge.pw_alikeatrest_k78_what_is_a_net w K mg base 1 (He.ga K "_law_take") c.fd__law_take ["box", "many"] g__law_take := by
  refine fn_mir c.F__law_take sc__law_take (k := 0) (fun cdv A outer s H E hr tk hp => ?_)
  have u1 := u1 hr; have u64 := u64 hr; have u65 := u65 hr
  exact (eb_cons (es_if (et_cmp op_gt opm_gt calm_gt (ev_ix u1 (ev_var (pv 0)) ev_int) ev_int (by rfl))
    (eb_cons (es_asg (ev_op op_mod opm_mod calm_mod (ev_int1 c.z_int (ev_ix u1 (ev_var (pv 0)) ev_int)) (ev_var (pv 1))) (eg_name (pg_name (i := 2) sc__law_take.nd rfl (by first | exact Or.inl rfl | exact Or.inr rfl))))
    (eb_cons (es_asg (ev_op op_fdivW opm_fdiv calm_fdiv (ev_ix u1 (ev_var (pv 0)) ev_int) (ev_var (pv 1))) (eg_sub (W := W0) u1 (ev_var (pv 0)) ev_int))
    (eb_one (es_ret (ev_var (pv 2))))))
    eb_nil)
    (eb_cons (es_asg (ev_op op_mod opm_mod calm_mod (ev_int1 c.z_int (ev_op op_addA opm_add calm_add (ev_op op_mulA opm_mul calm_mul (ev_ix u1 (ev_var (pv 0)) ev_int) ev_int) ev_int)) ev_int) (eg_name (pg_name (i := 3) sc__law_take.nd rfl (by first | exact Or.inl rfl | exact Or.inr rfl))))
    (eb_cons (es_asg (ev_op op_addA opm_add calm_add (ev_op op_mod opm_mod calm_mod (ev_int1 c.z_int (ev_op op_addA opm_add calm_add (ev_op op_mulA opm_mul calm_mul (ev_var (pv 3)) ev_int) ev_int)) ev_int) ev_int) (eg_sub (W := W0) u1 (ev_var (pv 0)) ev_int))
    (eb_one (es_ret (ev_op op_mod opm_mod calm_mod (ev_int1 c.z_int (ev_op op_fdivW opm_fdiv calm_fdiv (ev_op op_addA opm_add calm_add (ev_op op_mulA opm_mul calm_mul (ev_var (pv 3)) ev_int) (ev_ix u1 (ev_var (pv 0)) ev_int)) ev_int)) (ev_var (pv 1))))))))
theorem sc__law_pick : FnScope ["box", "some"] ["box", "some"] (defScope s__law_pick) := ⟨rfl, rfl, rfl, by decide +kernel, rfl, by decide +kernel, by decide +kernel⟩
noncomputable def b__law_pick_ : FS :=
  (sRet (fOp gIdx (fVar 1) (fCall 2 [] g__law_take (aCons (fVar 0) (aCons (fThen gLen (fVar 1)) aNil)))))
noncomputable def g__law_pick : List D → M D := fnM 2 b__law_pick_
theorem ok__law_pick {w : World} {K : PySem.W.Frag} {mg : Str → Option Value} {base : Heap} (c : Cn w K mg) : Fn PySem.Challenge.pw_alikeatrest_k78_what_is_a_net w K mg base 2 (He.ga K "_law_pick") c.fd__law_pick ["box", "some"] g__law_pick := by
  refine fn_mir c.F__law_pick sc__law_pick (k := 1) (fun cdv A outer s H E hr tk hp => ?_)
  have u1 := u1 hr; have u64 := u64 hr; have u65 := u65 hr
  exact (eb_one (es_ret (ev_ix u1 (ev_var (pv 1)) (ec0 (ok__law_take c) (hr.mono (by decide)) c.m__law_take c.F__law_take.kp (b__law_take c) tk (ea_cons (ev_var (pv 0)) (ea_cons (ev_len c.z_len (ev_var (pv 1))) ea_nil))))))
theorem sc__law_bent : FnScope ["box", "net", "many", "ways", "spot", "one", "found", "bad", "place", "way"] ["box", "net"] (defScope s__law_bent) := ⟨rfl, rfl, rfl, by decide +kernel, rfl, by decide +kernel, by decide +kernel⟩
noncomputable def b__law_bent_ : FS :=
  (sSeq (sAsg (fVar 1) (gtTup 2 (gtCons (gtName 2) (gtCons (gtName 3) gtNil))))
  (sSeq (sAsg (fCall 2 [] g__law_take (aCons (fVar 0) (aCons (fThen gLen (fVar 3)) aNil))) (gtName 4))
  (sSeq (sAsg (fOp gIdx (fVar 3) (fVar 4)) (gtName 5))
  (sSeq (sAsg (fNew (fLst (aCons (fTup (aCons (fNew (fLst (aCons (fVar 2) (aCons (fVar 3) aNil)))) (aCons (fOp gSub (fC (.int 0)) (fC (.int 1))) aNil))) (aCons (fTup (aCons (fTup (aCons (fVar 2) aNil)) (aCons (fOp gSub (fC (.int 0)) (fC (.int 1))) aNil))) (aCons (fTup (aCons (fTup (aCons (fVar 2) (aCons (fVar 3) (aCons (fVar 3) aNil)))) (aCons (fOp gSub (fC (.int 0)) (fC (.int 1))) aNil))) (aCons (fTup (aCons (fC .non) (aCons (fOp gSub (fC (.int 0)) (fC (.int 1))) aNil))) (aCons (fTup (aCons (fVar 2) (aCons (fOp gSub (fC (.int 0)) (fC (.int 1))) aNil))) (aCons (fTup (aCons (fC (.str "net")) (aCons (fOp gSub (fC (.int 0)) (fC (.int 1))) aNil))) aNil)))))))) (gtName 6))
  (sSeq (sFor (fThen gWalkT (fLst (aCons (fC (.int 0)) (aCons (fC (.int 8)) (aCons (fC (.bl true)) (aCons (fC .non) (aCons (fOp gSub (fC (.int 0)) (fC (.int 1))) (aCons (fC (.str "2")) (aCons (fTup (aCons (fVar 2) aNil)) aNil))))))))) (gtName 7)
  (sExpr (fBm "list" gAppend (fVar 6) (aCons (fTup (aCons (fTup (aCons (fVar 7) (aCons (fCall 2 [] g__law_pick (aCons (fVar 0) (aCons (fNew (fLst (aCons (fVar 3) (aCons (fTup aNil) (aCons (fNew (fThen gItems (fVar 3))) (aCons (fC (.int 5)) aNil)))))) aNil))) aNil))) (aCons (fC (.int 0)) aNil))) aNil))))
  (sSeq (sFor (fThen gWalkT (fLst (aCons (fNew (fThen gItems (fVar 3))) (aCons (fC .non) (aCons (fC (.int 7)) (aCons (fOp gAdd (fVar 3) (fTup (aCons (fC (.int 0)) aNil))) (aCons (fOp gAdd (fVar 3) (fTup (aCons (fTup (aCons (fC (.int 0)) (aCons (fC (.int 0)) aNil))) aNil))) (aCons (fOp gAdd (fVar 3) (fTup (aCons (fTup (aCons (fVar 2) (aCons (fVar 2) aNil))) aNil))) (aCons (fOp gAdd (fVar 3) (fTup (aCons (fTup (aCons (fC (.int 0)) (aCons (fOp gAdd (fVar 2) (fC (.int 1))) aNil))) aNil))) aNil))))))))) (gtName 7)
  (sExpr (fBm "list" gAppend (fVar 6) (aCons (fTup (aCons (fTup (aCons (fVar 2) (aCons (fVar 7) aNil))) (aCons (fC (.int 1)) aNil))) aNil))))
  (sSeq (sFor (fThen gWalkT (fLst (aCons (fNew (fLst (aCons (fOp gIdx (fVar 5) (fC (.int 0))) (aCons (fOp gIdx (fVar 5) (fC (.int 1))) aNil)))) (aCons (fTup (aCons (fOp gIdx (fVar 5) (fC (.int 0))) aNil)) (aCons (fOp gAdd (fVar 5) (fTup (aCons (fC (.int 1)) aNil))) (aCons (fTup (aCons (fOp gIdx (fVar 5) (fC (.int 0))) (aCons (fC .non) aNil))) (aCons (fTup (aCons (fC (.bl true)) (aCons (fOp gIdx (fVar 5) (fC (.int 1))) aNil))) (aCons (fTup (aCons (fOp gIdx (fVar 5) (fC (.int 0))) (aCons (fOp gIdx (fVar 5) (fC (.int 0))) aNil))) (aCons (fTup (aCons (fOp gSub (fC (.int 0)) (fC (.int 1))) (aCons (fOp gIdx (fVar 5) (fC (.int 1))) aNil))) aNil))))))))) (gtName 7)
  (sExpr (fBm "list" gAppend (fVar 6) (aCons (fTup (aCons (fTup (aCons (fVar 2) (aCons (fOp gAdd (fOp gAdd (fSl (fVar 3) oNone (oSome (fVar 4))) (fTup (aCons (fVar 7) aNil))) (fSl (fVar 3) (oSome (fOp gAdd (fVar 4) (fC (.int 1)))) oNone)) aNil))) (aCons (fC (.int 1)) aNil))) aNil))))
  (sSeq (sExpr (fBm "list" gAppend (fVar 6) (aCons (fTup (aCons (fTup (aCons (fVar 2) (aCons (fThen gTupT (fThen gSortV (fOp gAdd (fOp gMul (fNew (fLst (aCons (fTup (aCons (fC (.int 0)) (aCons (fVar 2) aNil))) aNil))) (fC (.int 15))) (fNew (fThen gItems (fVar 3)))))) aNil))) (aCons (fC (.int 1)) aNil))) aNil)))
  (sSeq (sIf (tE (fOp gNe (fNew (fThen gItems (fVar 3))) (fNew (fThen (gSorted true) (fThen gItems (fVar 3))))))
  (sExpr (fBm "list" gAppend (fVar 6) (aCons (fTup (aCons (fTup (aCons (fVar 2) (aCons (fThen gRevT (fVar 3)) aNil))) (aCons (fC (.int 1)) aNil))) aNil)))
  sNx)
  (sSeq (sAsg (fCall 2 [] g__law_take (aCons (fVar 0) (aCons (fVar 2) aNil))) (gtName 8))
  (sSeq (sExpr (fBm "list" gAppend (fVar 6) (aCons (fTup (aCons (fTup (aCons (fVar 2) (aCons (fThen gTupT (fComp (fThen gWalk (fVar 3)) [9] (gtName 9) (tE (fOp gNe (fOp gIdx (fVar 9) (fC (.int 0))) (fVar 8))) (fVar 9))) aNil))) (aCons (fOp gAdd (fC (.int 2)) (fVar 8)) aNil))) aNil)))
  (sSeq (sExpr (fBm "list" gAppend (fVar 6) (aCons (fTup (aCons (fTup (aCons (fVar 2) (aCons (fTup aNil) aNil))) (aCons (fC (.int 2)) aNil))) aNil)))
  (sRet (fVar 6))))))))))))))
noncomputable def g__law_bent : List D → M D := fnM 10 b__law_bent_
theorem ok__law_bent {w : World} {K : PySem.W.Frag} {mg : Str → Option Value} {base : Heap} (c : Cn w K mg) : Fn PySem.Challenge.pw_alikeatrest_k78_what_is_a_net w K mg base 3 (He.ga K "_law_bent") c.fd__law_bent ["box", "net"] g__law_bent := by
  refine fn_mir c.F__law_bent sc__law_bent (k := 2) (fun cdv A outer s H E hr tk hp => ?_)
  have u1 := u1 hr; have u64 := u64 hr; have u65 := u65 hr
  exact (eb_cons (es_asg (ev_var (pv 1)) (eg_tup (pg_tup rfl (egs_cons (eg_name (pg_name (i := 2) sc__law_bent.nd rfl (by first | exact Or.inl rfl | exact Or.inr rfl))) (egs_cons (eg_name (pg_name (i := 3) sc__law_bent.nd rfl (by first | exact Or.inl rfl | exact Or.inr rfl))) egs_nil)))))
    (eb_cons (es_asg (ec0 (ok__law_take c) (hr.mono (by decide)) c.m__law_take c.F__law_take.kp (b__law_take c) tk (ea_cons (ev_var (pv 0)) (ea_cons (ev_len c.z_len (ev_var (pv 3))) ea_nil))) (eg_name (pg_name (i := 4) sc__law_bent.nd rfl (by first | exact Or.inl rfl | exact Or.inr rfl))))
    (eb_cons (es_asg (ev_ix u1 (ev_var (pv 3)) (ev_var (pv 4))) (eg_name (pg_name (i := 5) sc__law_bent.nd rfl (by first | exact Or.inl rfl | exact Or.inr rfl))))
    (eb_cons (es_asg (ev_new (el_lst (ea_cons (ev_tup (ea_cons (ev_new (el_lst (ea_cons (ev_var (pv 2)) (ea_cons (ev_var (pv 3)) ea_nil)))) (ea_cons (ev_op op_sub opm_sub calm_sub ev_int ev_int) ea_nil))) (ea_cons (ev_tup (ea_cons (ev_tup (ea_cons (ev_var (pv 2)) ea_nil)) (ea_cons (ev_op op_sub opm_sub calm_sub ev_int ev_int) ea_nil))) (ea_cons (ev_tup (ea_cons (ev_tup (ea_cons (ev_var (pv 2)) (ea_cons (ev_var (pv 3)) (ea_cons (ev_var (pv 3)) ea_nil)))) (ea_cons (ev_op op_sub opm_sub calm_sub ev_int ev_int) ea_nil))) (ea_cons (ev_tup (ea_cons ev_non (ea_cons (ev_op op_sub opm_sub calm_sub ev_int ev_int) ea_nil))) (ea_cons (ev_tup (ea_cons (ev_var (pv 2)) (ea_cons (ev_op op_sub opm_sub calm_sub ev_int ev_int) ea_nil))) (ea_cons (ev_tup (ea_cons ev_str (ea_cons (ev_op op_sub opm_sub calm_sub ev_int ev_int) ea_nil))) ea_nil)))))))) (eg_name (pg_name (i := 6) sc__law_bent.nd rfl (by first | exact Or.inl rfl | exact Or.inr rfl))))
    (eb_cons (es_for hp (ei_tmp (el_lst (ea_cons ev_int (ea_cons ev_int (ea_cons ev_bl (ea_cons ev_non (ea_cons (ev_op op_sub opm_sub calm_sub ev_int ev_int) (ea_cons ev_str (ea_cons (ev_tup (ea_cons (ev_var (pv 2)) ea_nil)) ea_nil))))))))) (eg_name (pg_name (i := 7) sc__law_bent.nd rfl (by first | exact Or.inl rfl | exact Or.inr rfl)))
    (eb_one (es_expr (ev_append (ev_var (pv 6)) (ea_cons (ev_tup (ea_cons (ev_tup (ea_cons (ev_var (pv 7)) (ea_cons (ec0 (ok__law_pick c) (hr.mono (by decide)) c.m__law_pick c.F__law_pick.kp (b__law_pick c) tk (ea_cons (ev_var (pv 0)) (ea_cons (ev_new (el_lst (ea_cons (ev_var (pv 3)) (ea_cons (ev_tup ea_nil) (ea_cons (ev_new (el_list c.z_list (ev_var (pv 3)))) (ea_cons ev_int ea_nil)))))) ea_nil))) ea_nil))) (ea_cons ev_int ea_nil))) ea_nil)))))
    (eb_cons (es_for hp (ei_tmp (el_lst (ea_cons (ev_new (el_list c.z_list (ev_var (pv 3)))) (ea_cons ev_non (ea_cons ev_int (ea_cons (ev_op op_addA opm_add calm_add (ev_var (pv 3)) (ev_tup (ea_cons ev_int ea_nil))) (ea_cons (ev_op op_addA opm_add calm_add (ev_var (pv 3)) (ev_tup (ea_cons (ev_tup (ea_cons ev_int (ea_cons ev_int ea_nil))) ea_nil))) (ea_cons (ev_op op_addA opm_add calm_add (ev_var (pv 3)) (ev_tup (ea_cons (ev_tup (ea_cons (ev_var (pv 2)) (ea_cons (ev_var (pv 2)) ea_nil))) ea_nil))) (ea_cons (ev_op op_addA opm_add calm_add (ev_var (pv 3)) (ev_tup (ea_cons (ev_tup (ea_cons ev_int (ea_cons (ev_op op_addA opm_add calm_add (ev_var (pv 2)) ev_int) ea_nil))) ea_nil))) ea_nil))))))))) (eg_name (pg_name (i := 7) sc__law_bent.nd rfl (by first | exact Or.inl rfl | exact Or.inr rfl)))
    (eb_one (es_expr (ev_append (ev_var (pv 6)) (ea_cons (ev_tup (ea_cons (ev_tup (ea_cons (ev_var (pv 2)) (ea_cons (ev_var (pv 7)) ea_nil))) (ea_cons ev_int ea_nil))) ea_nil)))))
    (eb_cons (es_for hp (ei_tmp (el_lst (ea_cons (ev_new (el_lst (ea_cons (ev_ix u1 (ev_var (pv 5)) ev_int) (ea_cons (ev_ix u1 (ev_var (pv 5)) ev_int) ea_nil)))) (ea_cons (ev_tup (ea_cons (ev_ix u1 (ev_var (pv 5)) ev_int) ea_nil)) (ea_cons (ev_op op_addA opm_add calm_add (ev_var (pv 5)) (ev_tup (ea_cons ev_int ea_nil))) (ea_cons (ev_tup (ea_cons (ev_ix u1 (ev_var (pv 5)) ev_int) (ea_cons ev_non ea_nil))) (ea_cons (ev_tup (ea_cons ev_bl (ea_cons (ev_ix u1 (ev_var (pv 5)) ev_int) ea_nil))) (ea_cons (ev_tup (ea_cons (ev_ix u1 (ev_var (pv 5)) ev_int) (ea_cons (ev_ix u1 (ev_var (pv 5)) ev_int) ea_nil))) (ea_cons (ev_tup (ea_cons (ev_op op_sub opm_sub calm_sub ev_int ev_int) (ea_cons (ev_ix u1 (ev_var (pv 5)) ev_int) ea_nil))) ea_nil))))))))) (eg_name (pg_name (i := 7) sc__law_bent.nd rfl (by first | exact Or.inl rfl | exact Or.inr rfl)))
    (eb_one (es_expr (ev_append (ev_var (pv 6)) (ea_cons (ev_tup (ea_cons (ev_tup (ea_cons (ev_var (pv 2)) (ea_cons (ev_op op_addA opm_add calm_add (ev_op op_addA opm_add calm_add (ev_sl (ev_var (pv 3)) eo_none (eo_some (ev_var (pv 4)))) (ev_tup (ea_cons (ev_var (pv 7)) ea_nil))) (ev_sl (ev_var (pv 3)) (eo_some (ev_op op_addA opm_add calm_add (ev_var (pv 4)) ev_int)) eo_none)) ea_nil))) (ea_cons ev_int ea_nil))) ea_nil)))))
    (eb_cons (es_expr (ev_append (ev_var (pv 6)) (ea_cons (ev_tup (ea_cons (ev_tup (ea_cons (ev_var (pv 2)) (ea_cons (ev_tupT c.z_tuple (el_sortV u64 c.z_sorted (ev_op op_addA opm_add calm_add (ev_op op_mulA opm_mul calm_mul (ev_new (el_lst (ea_cons (ev_tup (ea_cons ev_int (ea_cons (ev_var (pv 2)) ea_nil))) ea_nil))) ev_int) (ev_new (el_list c.z_list (ev_var (pv 3))))))) ea_nil))) (ea_cons ev_int ea_nil))) ea_nil)))
    (eb_cons (es_if (et_cmp (op_neD u64) opm_ne (calm_cmpD not) (ev_new (el_list c.z_list (ev_var (pv 3)))) (ev_new (el_sortTR u64 c.z_sorted (el_list c.z_list (ev_var (pv 3))))) (by rfl))
    (eb_one (es_expr (ev_append (ev_var (pv 6)) (ea_cons (ev_tup (ea_cons (ev_tup (ea_cons (ev_var (pv 2)) (ea_cons (ev_revT (ev_var (pv 3))) ea_nil))) (ea_cons ev_int ea_nil))) ea_nil))))
    eb_nil)
    (eb_cons (es_asg (ec0 (ok__law_take c) (hr.mono (by decide)) c.m__law_take c.F__law_take.kp (b__law_take c) tk (ea_cons (ev_var (pv 0)) (ea_cons (ev_var (pv 2)) ea_nil))) (eg_name (pg_name (i := 8) sc__law_bent.nd rfl (by first | exact Or.inl rfl | exact Or.inr rfl))))
    (eb_cons (es_expr (ev_append (ev_var (pv 6)) (ea_cons (ev_tup (ea_cons (ev_tup (ea_cons (ev_var (pv 2)) (ea_cons (ev_tupT c.z_tuple (el_comp sc__law_bent.nd (ei_val (ev_var (pv 3))) (own := [("way", 9)]) (show BlkOk ["box", "net", "many", "ways", "spot", "one", "found", "bad", "place", "way"] (defScope s__law_bent) _ [("way", 9)] from ⟨rfl, by decide +kernel, by decide +kernel, by decide +kernel, by decide +kernel⟩) (tgOk_name (i := 9)) (fun s H C cl fp => (pg_name (i := 9) sc__law_bent.nd rfl (by first | exact Or.inl rfl | exact Or.inr rfl))) (fun s H C cl fp => (ets_one (et_cmp (op_neD u64) opm_ne (calm_cmpD not) (ev_ix u1 (ev_var (pv 9)) ev_int) (ev_var (pv 8)) (by rfl)))) (fun s H C cl fp => (ev_var (pv 9))))) ea_nil))) (ea_cons (ev_op op_addA opm_add calm_add ev_int (ev_var (pv 8))) ea_nil))) ea_nil)))
    (eb_cons (es_expr (ev_append (ev_var (pv 6)) (ea_cons (ev_tup (ea_cons (ev_tup (ea_cons (ev_var (pv 2)) (ea_cons (ev_tup ea_nil) ea_nil))) (ea_cons ev_int ea_nil))) ea_nil)))
    (eb_one (es_ret (ev_var (pv 6))))))))))))))))
theorem sc__law_box : FnScope ["script", "k", "cell", "great"] ["script", "k"] (defScope s__law_box) := ⟨rfl, rfl, rfl, by decide +kernel, rfl, by decide +kernel, by decide +kernel⟩
noncomputable def b__law_box_ : FS :=
  (sSeq (sAsg (fOp gAdd (fOp gMul (fC (.int 23011)) (fVar 1)) (fC (.int 8089))) (gtName 2))
  (sSeq (sIf (tE (fOp gLt (fVar 1) (fThen gLen (fVar 0))))
  (sAsg (fThen gAbs (fThen gInt (fOp gIdx (fVar 0) (fVar 1)))) (gtName 2))
  (sIf (tE (fOp gGt (fThen gLen (fVar 0)) (fC (.int 0))))
  (sAsg (fOp gAdd (fVar 2) (fOp gMul (fOp gMod (fThen gInt (fThen gAbs (fThen gInt (fOp gIdx (fVar 0) (fOp gMod (fThen gInt (fVar 1)) (fThen gLen (fVar 0))))))) (fC (.int 2147483563))) (fC (.int 91813)))) (gtName 2))
  sNx))
  (sSeq (sAsg (fIf (tE (fOp gGe (fVar 2) (fOp gPow (fC (.int 10)) (fC (.int 18))))) (fVar 2) (fC (.int 0))) (gtName 3))
  (sRet (fNew (fLst (aCons (fVar 3) (aCons (fOp gAdd (fOp gMod (fThen gInt (fOp gAdd (fOp gMul (fOp gMod (fThen gInt (fVar 2)) (fC (.int 2147483563))) (fC (.int 54250003))) (fOp gMul (fC (.int 8089)) (fVar 1)))) (fC (.int 2147483563))) (fC (.int 1))) aNil))))))))
noncomputable def g__law_box : List D → M D := fnM 4 b__law_box_
theorem ok__law_box {w : World} {K : PySem.W.Frag} {mg : Str → Option Value} {base : Heap} (c : Cn w K mg) : Fn PySem.Challenge.pw_alikeatrest_k78_what_is_a_net w K mg base 1 (He.ga K "_law_box") c.fd__law_box ["script", "k"] g__law_box := by
  refine fn_mir c.F__law_box sc__law_box (k := 0) (fun cdv A outer s H E hr tk hp => ?_)
  have u1 := u1 hr; have u64 := u64 hr; have u65 := u65 hr
  exact (eb_cons (es_asg (ev_op op_addA opm_add calm_add (ev_op op_mulA opm_mul calm_mul ev_int (ev_var (pv 1))) ev_int) (eg_name (pg_name (i := 2) sc__law_box.nd rfl (by first | exact Or.inl rfl | exact Or.inr rfl))))
    (eb_cons (es_if (et_cmp op_lt opm_lt calm_lt (ev_var (pv 1)) (ev_len c.z_len (ev_var (pv 0))) (by rfl))
    (eb_one (es_asg (ev_abs c.z_abs (ev_int1 c.z_int (ev_ix u1 (ev_var (pv 0)) (ev_var (pv 1))))) (eg_name (pg_name (i := 2) sc__law_box.nd rfl (by first | exact Or.inl rfl | exact Or.inr rfl)))))
    (eb_one (es_if (et_cmp op_gt opm_gt calm_gt (ev_len c.z_len (ev_var (pv 0))) ev_int (by rfl))
    (eb_one (es_asg (ev_op op_addA opm_add calm_add (ev_var (pv 2)) (ev_op op_mulA opm_mul calm_mul (ev_op op_mod opm_mod calm_mod (ev_int1 c.z_int (ev_abs c.z_abs (ev_int1 c.z_int (ev_ix u1 (ev_var (pv 0)) (ev_op op_mod opm_mod calm_mod (ev_int1 c.z_int (ev_var (pv 1))) (ev_len c.z_len (ev_var (pv 0)))))))) ev_int) ev_int)) (eg_name (pg_name (i := 2) sc__law_box.nd rfl (by first | exact Or.inl rfl | exact Or.inr rfl)))))
    eb_nil)))
    (eb_cons (es_asg (ev_if (et_cmp op_ge opm_ge calm_ge (ev_var (pv 2)) (ev_op op_pow opm_pow calm_pow ev_int ev_int) (by rfl)) (ev_var (pv 2)) ev_int) (eg_name (pg_name (i := 3) sc__law_box.nd rfl (by first | exact Or.inl rfl | exact Or.inr rfl))))
    (eb_one (es_ret (ev_new (el_lst (ea_cons (ev_var (pv 3)) (ea_cons (ev_op op_addA opm_add calm_add (ev_op op_mod opm_mod calm_mod (ev_int1 c.z_int (ev_op op_addA opm_add calm_add (ev_op op_mulA opm_mul calm_mul (ev_op op_mod opm_mod calm_mod (ev_int1 c.z_int (ev_var (pv 2))) ev_int) ev_int) (ev_op op_mulA opm_mul calm_mul ev_int (ev_var (pv 1))))) ev_int) ev_int) ea_nil)))))))))
theorem sc__law_mutual : FnScope ["box", "places", "most", "many", "ways", "place", "goal", "turn", "one", "two"] ["box", "places", "most"] (defScope s__law_mutual) := ⟨rfl, rfl, rfl, by decide +kernel, rfl, by decide +kernel, by decide +kernel⟩
noncomputable def b__law_mutual_ : FS :=
  (sSeq (sAsg (fOp gAdd (fC (.int 1)) (fCall 2 [] g__law_take (aCons (fVar 0) (aCons (fVar 1) aNil)))) (gtName 3))
  (sSeq (sAsg (fNew (fLst aNil)) (gtName 4))
  (sSeq (sFor (fThen bRange1 (aCons (fVar 3) aNil)) (gtName 5)
  (sSeq (sAsg (fCall 2 [] g__law_take (aCons (fVar 0) (aCons (fOp gAdd (fVar 5) (fC (.int 1))) aNil))) (gtName 6))
  (sIf (tE (fOp gEq (fVar 6) (fVar 5)))
  (sExpr (fBm "list" gAppend (fVar 4) (aCons (fTup (aCons (fVar 5) (aCons (fVar 3) aNil))) aNil)))
  (sAsg (fOp gAdd (fVar 4) (fNew (fLst (aCons (fTup (aCons (fVar 5) (aCons (fVar 6) aNil))) (aCons (fTup (aCons (fVar 6) (aCons (fVar 5) aNil))) aNil))))) (gtName 4)))))
  (sSeq (sFor (fThen bRange1 (aCons (fC (.int 6)) aNil)) (gtName 7)
  (sSeq (sPar 8 9 (aCons (fCall 2 [] g__law_take (aCons (fVar 0) (aCons (fVar 3) aNil))) (aCons (fCall 2 [] g__law_take (aCons (fVar 0) (aCons (fOp gAdd (fVar 3) (fC (.int 1))) aNil))) aNil)))
  (sIf (tAndM (tE (fOp gEq (fVar 9) (fVar 3))) (tE (fOp gLt (fThen gLen (fVar 4)) (fVar 2))))
  (sExpr (fBm "list" gAppend (fVar 4) (aCons (fTup (aCons (fVar 8) (aCons (fVar 3) aNil))) aNil)))
  (sIf (tAndM (tE (fOp gNe (fVar 9) (fVar 8))) (tAndM (tE (fOp gLt (fVar 9) (fVar 3))) (tAndM (tE (fOp gLt (fOp gAdd (fThen gLen (fVar 4)) (fC (.int 1))) (fVar 2))) (tE (fOp gEq (fCall 2 [] g__law_take (aCons (fVar 0) (aCons (fC (.int 2)) aNil))) (fC (.int 0)))))))
  (sAsg (fOp gAdd (fVar 4) (fNew (fLst (aCons (fTup (aCons (fVar 8) (aCons (fVar 9) aNil))) (aCons (fTup (aCons (fVar 9) (aCons (fVar 8) aNil))) aNil))))) (gtName 4))
  sNx))))
  (sRet (fTup (aCons (fVar 3) (aCons (fThen gTupT (fThen gSortV (fVar 4))) aNil))))))))
noncomputable def g__law_mutual : List D → M D := fnM 10 b__law_mutual_
theorem ok__law_mutual {w : World} {K : PySem.W.Frag} {mg : Str → Option Value} {base : Heap} (c : Cn w K mg) : Fn PySem.Challenge.pw_alikeatrest_k78_what_is_a_net w K mg base 2 (He.ga K "_law_mutual") c.fd__law_mutual ["box", "places", "most"] g__law_mutual := by
  refine fn_mir c.F__law_mutual sc__law_mutual (k := 1) (fun cdv A outer s H E hr tk hp => ?_)
  have u1 := u1 hr; have u64 := u64 hr; have u65 := u65 hr
  exact (eb_cons (es_asg (ev_op op_addA opm_add calm_add ev_int (ec0 (ok__law_take c) (hr.mono (by decide)) c.m__law_take c.F__law_take.kp (b__law_take c) tk (ea_cons (ev_var (pv 0)) (ea_cons (ev_var (pv 1)) ea_nil)))) (eg_name (pg_name (i := 3) sc__law_mutual.nd rfl (by first | exact Or.inl rfl | exact Or.inr rfl))))
    (eb_cons (es_asg (ev_new (el_lst ea_nil)) (eg_name (pg_name (i := 4) sc__law_mutual.nd rfl (by first | exact Or.inl rfl | exact Or.inr rfl))))
    (eb_cons (es_for hp (ei_range1 c.z_range (ea_cons (ev_var (pv 3)) ea_nil)) (eg_name (pg_name (i := 5) sc__law_mutual.nd rfl (by first | exact Or.inl rfl | exact Or.inr rfl)))
    (eb_cons (es_asg (ec0 (ok__law_take c) (hr.mono (by decide)) c.m__law_take c.F__law_take.kp (b__law_take c) tk (ea_cons (ev_var (pv 0)) (ea_cons (ev_op op_addA opm_add calm_add (ev_var (pv 5)) ev_int) ea_nil))) (eg_name (pg_name (i := 6) sc__law_mutual.nd rfl (by first | exact Or.inl rfl | exact Or.inr rfl))))
    (eb_one (es_if (et_cmp (op_eqD u64) opm_eq (calm_cmpD id) (ev_var (pv 6)) (ev_var (pv 5)) (by rfl))
    (eb_one (es_expr (ev_append (ev_var (pv 4)) (ea_cons (ev_tup (ea_cons (ev_var (pv 5)) (ea_cons (ev_var (pv 3)) ea_nil))) ea_nil))))
    (eb_one (es_asg (ev_op op_addA opm_add calm_add (ev_var (pv 4)) (ev_new (el_lst (ea_cons (ev_tup (ea_cons (ev_var (pv 5)) (ea_cons (ev_var (pv 6)) ea_nil))) (ea_cons (ev_tup (ea_cons (ev_var (pv 6)) (ea_cons (ev_var (pv 5)) ea_nil))) ea_nil))))) (eg_name (pg_name (i := 4) sc__law_mutual.nd rfl (by first | exact Or.inl rfl | exact Or.inr rfl)))))))))
    (eb_cons (es_for hp (ei_range1 c.z_range (ea_cons ev_int ea_nil)) (eg_name (pg_name (i := 7) sc__law_mutual.nd rfl (by first | exact Or.inl rfl | exact Or.inr rfl)))
    (eb_cons (es_par (i := 8) (j := 9) rfl sc__law_mutual.nd rfl rfl (by decide) rfl rfl (ea_cons (ec0 (ok__law_take c) (hr.mono (by decide)) c.m__law_take c.F__law_take.kp (b__law_take c) tk (ea_cons (ev_var (pv 0)) (ea_cons (ev_var (pv 3)) ea_nil))) (ea_cons (ec0 (ok__law_take c) (hr.mono (by decide)) c.m__law_take c.F__law_take.kp (b__law_take c) tk (ea_cons (ev_var (pv 0)) (ea_cons (ev_op op_addA opm_add calm_add (ev_var (pv 3)) ev_int) ea_nil))) ea_nil)))
    (eb_one (es_if (ew_t (ew_and (et_cmp (op_eqD u64) opm_eq (calm_cmpD id) (ev_var (pv 9)) (ev_var (pv 3)) (by rfl)) (ew_and1 (et_cmp op_lt opm_lt calm_lt (ev_len c.z_len (ev_var (pv 4))) (ev_var (pv 2)) (by rfl)))))
    (eb_one (es_expr (ev_append (ev_var (pv 4)) (ea_cons (ev_tup (ea_cons (ev_var (pv 8)) (ea_cons (ev_var (pv 3)) ea_nil))) ea_nil))))
    (eb_one (es_if (ew_t (ew_and (et_cmp (op_neD u64) opm_ne (calm_cmpD not) (ev_var (pv 9)) (ev_var (pv 8)) (by rfl)) (ew_and (et_cmp op_lt opm_lt calm_lt (ev_var (pv 9)) (ev_var (pv 3)) (by rfl)) (ew_and (et_cmp op_lt opm_lt calm_lt (ev_op op_addA opm_add calm_add (ev_len c.z_len (ev_var (pv 4))) ev_int) (ev_var (pv 2)) (by rfl)) (ew_and1 (et_cmp (op_eqD u64) opm_eq (calm_cmpD id) (ec0 (ok__law_take c) (hr.mono (by decide)) c.m__law_take c.F__law_take.kp (b__law_take c) tk (ea_cons (ev_var (pv 0)) (ea_cons ev_int ea_nil))) ev_int (by rfl)))))))
    (eb_one (es_asg (ev_op op_addA opm_add calm_add (ev_var (pv 4)) (ev_new (el_lst (ea_cons (ev_tup (ea_cons (ev_var (pv 8)) (ea_cons (ev_var (pv 9)) ea_nil))) (ea_cons (ev_tup (ea_cons (ev_var (pv 9)) (ea_cons (ev_var (pv 8)) ea_nil))) ea_nil))))) (eg_name (pg_name (i := 4) sc__law_mutual.nd rfl (by first | exact Or.inl rfl | exact Or.inr rfl)))))
    eb_nil))))))
    (eb_one (es_ret (ev_tup (ea_cons (ev_var (pv 3)) (ea_cons (ev_tupT c.z_tuple (el_sortV u64 c.z_sorted (ev_var (pv 4)))) ea_nil)))))))))
theorem sc__law_goal : FnScope ["box", "many", "place", "goal"] ["box", "many", "place"] (defScope s__law_goal) := ⟨rfl, rfl, rfl, by decide +kernel, rfl, by decide +kernel, by decide +kernel⟩
noncomputable def b__law_goal_ : FS :=
  (sSeq (sAsg (fCall 2 [] g__law_take (aCons (fVar 0) (aCons (fVar 1) aNil))) (gtName 3))
  (sRet (fIf (tE (fOp gNe (fVar 3) (fVar 2))) (fVar 3) (fVar 1))))
noncomputable def g__law_goal : List D → M D := fnM 4 b__law_goal_
theorem ok__law_goal {w : World} {K : PySem.W.Frag} {mg : Str → Option Value} {base : Heap} (c : Cn w K mg) : Fn PySem.Challenge.pw_alikeatrest_k78_what_is_a_net w K mg base 2 (He.ga K "_law_goal") c.fd__law_goal ["box", "many", "place"] g__law_goal := by
  refine fn_mir c.F__law_goal sc__law_goal (k := 1) (fun cdv A outer s H E hr tk hp => ?_)
  have u1 := u1 hr; have u64 := u64 hr; have u65 := u65 hr
  exact (eb_cons (es_asg (ec0 (ok__law_take c) (hr.mono (by decide)) c.m__law_take c.F__law_take.kp (b__law_take c) tk (ea_cons (ev_var (pv 0)) (ea_cons (ev_var (pv 1)) ea_nil))) (eg_name (pg_name (i := 3) sc__law_goal.nd rfl (by first | exact Or.inl rfl | exact Or.inr rfl))))
    (eb_one (es_ret (ev_if (et_cmp (op_neD u64) opm_ne (calm_cmpD not) (ev_var (pv 3)) (ev_var (pv 2)) (by rfl)) (ev_var (pv 3)) (ev_var (pv 1))))))
theorem sc__law_net : FnScope ["box", "places", "most", "many", "ways", "place", "turn"] ["box", "places", "most"] (defScope s__law_net) := ⟨rfl, rfl, rfl, by decide +kernel, rfl, by decide +kernel, by decide +kernel⟩
noncomputable def b__law_net_ : FS :=
  (sSeq (sAsg (fOp gAdd (fC (.int 1)) (fCall 2 [] g__law_take (aCons (fVar 0) (aCons (fVar 1) aNil)))) (gtName 3))
  (sSeq (sAsg (fNew (fLst aNil)) (gtName 4))
  (sSeq (sFor (fThen bRange1 (aCons (fVar 3) aNil)) (gtName 5)
  (sExpr (fBm "list" gAppend (fVar 4) (aCons (fTup (aCons (fVar 5) (aCons (fCall 3 [] g__law_goal (aCons (fVar 0) (aCons (fVar 3) (aCons (fVar 5) aNil)))) aNil))) aNil))))
  (sSeq (sFor (fThen bRange1 (aCons (fCall 2 [] g__law_take (aCons (fVar 0) (aCons (fCallB bMax (aCons (fC (.int 1)) (aCons (fOp gSub (fOp gAdd (fVar 2) (fC (.int 1))) (fVar 3)) aNil))) aNil))) aNil)) (gtName 6)
  (sSeq (sAsg (fCall 2 [] g__law_take (aCons (fVar 0) (aCons (fVar 3) aNil))) (gtName 5))
  (sExpr (fBm "list" gAppend (fVar 4) (aCons (fTup (aCons (fVar 5) (aCons (fCall 3 [] g__law_goal (aCons (fVar 0) (aCons (fVar 3) (aCons (fVar 5) aNil)))) aNil))) aNil)))))
  (sRet (fTup (aCons (fVar 3) (aCons (fThen gTupT (fThen gSortV (fVar 4))) aNil))))))))
noncomputable def g__law_net : List D → M D := fnM 7 b__law_net_
theorem ok__law_net {w : World} {K : PySem.W.Frag} {mg : Str → Option Value} {base : Heap} (c : Cn w K mg) : Fn PySem.Challenge.pw_alikeatrest_k78_what_is_a_net w K mg base 3 (He.ga K "_law_net") c.fd__law_net ["box", "places", "most"] g__law_net := by
  refine fn_mir c.F__law_net sc__law_net (k := 2) (fun cdv A outer s H E hr tk hp => ?_)
  have u1 := u1 hr; have u64 := u64 hr; have u65 := u65 hr
  exact (eb_cons (es_asg (ev_op op_addA opm_add calm_add ev_int (ec0 (ok__law_take c) (hr.mono (by decide)) c.m__law_take c.F__law_take.kp (b__law_take c) tk (ea_cons (ev_var (pv 0)) (ea_cons (ev_var (pv 1)) ea_nil)))) (eg_name (pg_name (i := 3) sc__law_net.nd rfl (by first | exact Or.inl rfl | exact Or.inr rfl))))
    (eb_cons (es_asg (ev_new (el_lst ea_nil)) (eg_name (pg_name (i := 4) sc__law_net.nd rfl (by first | exact Or.inl rfl | exact Or.inr rfl))))
    (eb_cons (es_for hp (ei_range1 c.z_range (ea_cons (ev_var (pv 3)) ea_nil)) (eg_name (pg_name (i := 5) sc__law_net.nd rfl (by first | exact Or.inl rfl | exact Or.inr rfl)))
    (eb_one (es_expr (ev_append (ev_var (pv 4)) (ea_cons (ev_tup (ea_cons (ev_var (pv 5)) (ea_cons (ec0 (ok__law_goal c) (hr.mono (by decide)) c.m__law_goal c.F__law_goal.kp (b__law_goal c) tk (ea_cons (ev_var (pv 0)) (ea_cons (ev_var (pv 3)) (ea_cons (ev_var (pv 5)) ea_nil)))) ea_nil))) ea_nil)))))
    (eb_cons (es_for hp (ei_range1 c.z_range (ea_cons (ec0 (ok__law_take c) (hr.mono (by decide)) c.m__law_take c.F__law_take.kp (b__law_take c) tk (ea_cons (ev_var (pv 0)) (ea_cons (ev_max2 c.z_max (ea_cons ev_int (ea_cons (ev_op op_sub opm_sub calm_sub (ev_op op_addA opm_add calm_add (ev_var (pv 2)) ev_int) (ev_var (pv 3))) ea_nil))) ea_nil))) ea_nil)) (eg_name (pg_name (i := 6) sc__law_net.nd rfl (by first | exact Or.inl rfl | exact Or.inr rfl)))
    (eb_cons (es_asg (ec0 (ok__law_take c) (hr.mono (by decide)) c.m__law_take c.F__law_take.kp (b__law_take c) tk (ea_cons (ev_var (pv 0)) (ea_cons (ev_var (pv 3)) ea_nil))) (eg_name (pg_name (i := 5) sc__law_net.nd rfl (by first | exact Or.inl rfl | exact Or.inr rfl))))
    (eb_one (es_expr (ev_append (ev_var (pv 4)) (ea_cons (ev_tup (ea_cons (ev_var (pv 5)) (ea_cons (ec0 (ok__law_goal c) (hr.mono (by decide)) c.m__law_goal c.F__law_goal.kp (b__law_goal c) tk (ea_cons (ev_var (pv 0)) (ea_cons (ev_var (pv 3)) (ea_cons (ev_var (pv 5)) ea_nil)))) ea_nil))) ea_nil))))))
    (eb_one (es_ret (ev_tup (ea_cons (ev_var (pv 3)) (ea_cons (ev_tupT c.z_tuple (el_sortV u64 c.z_sorted (ev_var (pv 4)))) ea_nil)))))))))
theorem sc__law_ways : FnScope ["net", "place", "way"] ["net", "place"] (defScope s__law_ways) := ⟨rfl, rfl, rfl, by decide +kernel, rfl, by decide +kernel, by decide +kernel⟩
noncomputable def b__law_ways_ : FS :=
  (sRet (fNew (fComp (fThen gWalk (fOp gIdx (fVar 0) (fC (.int 1)))) [2] (gtName 2) (tE (fOp gEq (fOp gIdx (fVar 2) (fC (.int 0))) (fVar 1))) (fOp gIdx (fVar 2) (fC (.int 1))))))
noncomputable def g__law_ways : List D → M D := fnM 3 b__law_ways_
theorem ok__law_ways {w : World} {K : PySem.W.Frag} {mg : Str → Option Value} {base : Heap} (c : Cn w K mg) : Fn PySem.Challenge.pw_alikeatrest_k78_what_is_a_net w K mg base 1 (He.ga K "_law_ways") c.fd__law_ways ["net", "place"] g__law_ways := by
  refine fn_mir c.F__law_ways sc__law_ways (k := 0) (fun cdv A outer s H E hr tk hp => ?_)
  have u1 := u1 hr; have u64 := u64 hr; have u65 := u65 hr
  exact (eb_one (es_ret (ev_new (el_comp sc__law_ways.nd (ei_val (ev_ix u1 (ev_var (pv 0)) ev_int)) (own := [("way", 2)]) (show BlkOk ["net", "place", "way"] (defScope s__law_ways) _ [("way", 2)] from ⟨rfl, by decide +kernel, by decide +kernel, by decide +kernel, by decide +kernel⟩) (tgOk_name (i := 2)) (fun s H C cl fp => (pg_name (i := 2) sc__law_ways.nd rfl (by first | exact Or.inl rfl | exact Or.inr rfl))) (fun s H C cl fp => (ets_one (et_cmp (op_eqD u64) opm_eq (calm_cmpD id) (ev_ix u1 (ev_var (pv 2)) ev_int) (ev_var (pv 1)) (by rfl)))) (fun s H C cl fp => (ev_ix u1 (ev_var (pv 2)) ev_int))))))
theorem sc__law_rooted : FnScope ["net", "place", "line", "at", "goal"] ["net"] (defScope s__law_rooted) := ⟨rfl, rfl, rfl, by decide +kernel, rfl, by decide +kernel, by decide +kernel⟩
noncomputable def b__law_rooted_ : FS :=
  (sSeq (sFor (fThen bRange1 (aCons (fOp gIdx (fVar 0) (fC (.int 0))) aNil)) (gtName 1)
  (sSeq (sAsg (fNew (fLst (aCons (fVar 1) aNil))) (gtName 2))
  (sSeq (sFor (fThen bRange1 (aCons (fOp gAdd (fOp gIdx (fVar 0) (fC (.int 0))) (fC (.int 1))) aNil)) (gtName 3)
  (sIf (tAndM (tE (fOp gLt (fVar 3) (fThen gLen (fVar 2)))) (tE (fOp gLt (fOp gIdx (fVar 2) (fVar 3)) (fOp gIdx (fVar 0) (fC (.int 0))))))
  (sFor (fThen gWalk (fCall 2 [] g__law_ways (aCons (fVar 0) (aCons (fOp gIdx (fVar 2) (fVar 3)) aNil)))) (gtName 4)
  (sIf (tE (fOp (gIn not) (fVar 4) (fVar 2)))
  (sExpr (fBm "list" gAppend (fVar 2) (aCons (fVar 4) aNil)))
  sNx))
  sNx))
  (sIf (tE (fOp (gIn not) (fOp gIdx (fVar 0) (fC (.int 0))) (fVar 2)))
  (sRet (fC (.bl false)))
  sNx))))
  (sRet (fC (.bl true))))
noncomputable def g__law_rooted : List D → M D := fnM 5 b__law_rooted_
theorem ok__law_rooted {w : World} {K : PySem.W.Frag} {mg : Str → Option Value} {base : Heap} (c : Cn w K mg) : Fn PySem.Challenge.pw_alikeatrest_k78_what_is_a_net w K mg base 2 (He.ga K "_law_rooted") c.fd__law_rooted ["net"] g__law_rooted := by
  refine fn_mir c.F__law_rooted sc__law_rooted (k := 1) (fun cdv A outer s H E hr tk hp => ?_)
  have u1 := u1 hr; have u64 := u64 hr; have u65 := u65 hr
  exact (eb_cons (es_for hp (ei_range1 c.z_range (ea_cons (ev_ix u1 (ev_var (pv 0)) ev_int) ea_nil)) (eg_name (pg_name (i := 1) sc__law_rooted.nd rfl (by first | exact Or.inl rfl | exact Or.inr rfl)))
    (eb_cons (es_asg (ev_new (el_lst (ea_cons (ev_var (pv 1)) ea_nil))) (eg_name (pg_name (i := 2) sc__law_rooted.nd rfl (by first | exact Or.inl rfl | exact Or.inr rfl))))
    (eb_cons (es_for hp (ei_range1 c.z_range (ea_cons (ev_op op_addA opm_add calm_add (ev_ix u1 (ev_var (pv 0)) ev_int) ev_int) ea_nil)) (eg_name (pg_name (i := 3) sc__law_rooted.nd rfl (by first | exact Or.inl rfl | exact Or.inr rfl)))
    (eb_one (es_if (ew_t (ew_and (et_cmp op_lt opm_lt calm_lt (ev_var (pv 3)) (ev_len c.z_len (ev_var (pv 2))) (by rfl)) (ew_and1 (et_cmp op_lt opm_lt calm_lt (ev_ix u1 (ev_var (pv 2)) (ev_var (pv 3))) (ev_ix u1 (ev_var (pv 0)) ev_int) (by rfl)))))
    (eb_one (es_for hp (ei_val (ec0 (ok__law_ways c) (hr.mono (by decide)) c.m__law_ways c.F__law_ways.kp (b__law_ways c) tk (ea_cons (ev_var (pv 0)) (ea_cons (ev_ix u1 (ev_var (pv 2)) (ev_var (pv 3))) ea_nil)))) (eg_name (pg_name (i := 4) sc__law_rooted.nd rfl (by first | exact Or.inl rfl | exact Or.inr rfl)))
    (eb_one (es_if (et_cmp (op_notInA u65) (opm_in not) (calm_in not) (ev_var (pv 4)) (ev_var (pv 2)) (by rfl))
    (eb_one (es_expr (ev_append (ev_var (pv 2)) (ea_cons (ev_var (pv 4)) ea_nil))))
    eb_nil))))
    eb_nil)))
    (eb_one (es_if (et_cmp (op_notInA u65) (opm_in not) (calm_in not) (ev_ix u1 (ev_var (pv 0)) ev_int) (ev_var (pv 2)) (by rfl))
    (eb_one (es_ret ev_bl))
    eb_nil)))))
    (eb_one (es_ret ev_bl)))
theorem sc__law_same : FnScope ["told", "due", "one", "other"] ["told", "due"] (defScope s__law_same) := ⟨rfl, rfl, rfl, by decide +kernel, rfl, by decide +kernel, by decide +kernel⟩
noncomputable def b__law_same_ (r : List D → M D) : FS :=
  (sSeq (sIf (tE (fThen (gIsi "tuple") (fVar 1)))
  (sSeq (sIf (tOrM (tNotM (tE (fThen (gIsi "tuple") (fVar 0)))) (tE (fOp gNe (fThen gLen (fVar 0)) (fThen gLen (fVar 1)))))
  (sRet (fC (.bl false)))
  sNx)
  (sSeq (sFor (fThen bZip (aCons (fVar 0) (aCons (fVar 1) aNil))) (gtTup 2 (gtCons (gtName 2) (gtCons (gtName 3) gtNil)))
  (sIf (tNotM (tE (fCall 2 [] r (aCons (fVar 2) (aCons (fVar 3) aNil)))))
  (sRet (fC (.bl false)))
  sNx))
  (sRet (fC (.bl true)))))
  sNx)
  (sSeq (sIf (tE (fOp gIsN (fVar 1) (fC .non)))
  (sRet (fOp gIsN (fVar 0) (fC .non)))
  sNx)
  (sSeq (sIf (tOrM (tE (fOp gIsB (fVar 1) (fC (.bl true)))) (tE (fOp gIsB (fVar 1) (fC (.bl false)))))
  (sRet (fAnd (fThen (gIsi "bool") (fVar 0)) (fOp gEq (fVar 0) (fVar 1))))
  sNx)
  (sSeq (sIf (tE (fThen (gIsi "int") (fVar 1)))
  (sRet (fAnd (fThen (gIsi "int") (fVar 0)) (fAnd (fUn gNot (fThen (gIsi "bool") (fVar 0))) (fOp gEq (fVar 0) (fVar 1)))))
  sNx)
  (sRet (fAnd (fThen (gIsi "str") (fVar 0)) (fAnd (fThen (gIsi "str") (fVar 1)) (fOp gEq (fVar 0) (fVar 1)))))))))
noncomputable def g__law_same : Nat → List D → M D
  | 0 => fun _ => bad
  | n + 1 => fnM 4 (b__law_same_ (g__law_same n))
theorem ok__law_same {w : World} {K : PySem.W.Frag} {mg : Str → Option Value} {base : Heap} (c : Cn w K mg) : ∀ n : Nat, Fn PySem.Challenge.pw_alikeatrest_k78_what_is_a_net w K mg base (n + 0 + 1) (He.ga K "_law_same") c.fd__law_same ["told", "due"] (g__law_same n)
  | 0 => fn_bad c.F__law_same sc__law_same
  | n + 1 => by
    have ih := ok__law_same (base := base) c n
    rw [show n + 1 + 0 = n + 0 + 1 by omega]
    refine fn_mir c.F__law_same sc__law_same (fun cdv A outer s H E hr tk hp => ?_)
    have u1 := u1 hr; have u64 := u64 hr; have u65 := u65 hr
    exact (eb_cons (es_if (et_val (ev_isi c.z_isinstance c.z_tuple (by decide +kernel) (ev_var (pv 1))))
    (eb_cons (es_if (ew_t (ew_or (et_not (et_val (ev_isi c.z_isinstance c.z_tuple (by decide +kernel) (ev_var (pv 0))))) (ew_or1 (et_cmp (op_neD u64) opm_ne (calm_cmpD not) (ev_len c.z_len (ev_var (pv 0))) (ev_len c.z_len (ev_var (pv 1))) (by rfl)))))
    (eb_one (es_ret ev_bl))
    eb_nil)
    (eb_cons (es_for hp (ei_zip c.z_zip (ea_cons (ev_var (pv 0)) (ea_cons (ev_var (pv 1)) ea_nil))) (eg_tup (pg_tup rfl (egs_cons (eg_name (pg_name (i := 2) sc__law_same.nd rfl (by first | exact Or.inl rfl | exact Or.inr rfl))) (egs_cons (eg_name (pg_name (i := 3) sc__law_same.nd rfl (by first | exact Or.inl rfl | exact Or.inr rfl))) egs_nil))))
    (eb_one (es_if (et_not (et_val (ec0 ih hr c.m__law_same c.F__law_same.kp (b__law_same c) tk (ea_cons (ev_var (pv 2)) (ea_cons (ev_var (pv 3)) ea_nil)))))
    (eb_one (es_ret ev_bl))
    eb_nil)))
    (eb_one (es_ret ev_bl))))
    eb_nil)
    (eb_cons (es_if (et_cmp op_isN opm_isN calm_isN (ev_var (pv 1)) ev_non (by rfl))
    (eb_one (es_ret (ev_cmp op_isN opm_isN calm_isN (ev_var (pv 0)) ev_non (by rfl))))
    eb_nil)
    (eb_cons (es_if (ew_t (ew_or (et_cmp op_isBA opm_isB calm_isB (ev_var (pv 1)) ev_bl (by rfl)) (ew_or1 (et_cmp op_isBA opm_isB calm_isB (ev_var (pv 1)) ev_bl (by rfl)))))
    (eb_one (es_ret (ev_and (ev_isi c.z_isinstance c.z_bool (by decide +kernel) (ev_var (pv 0))) (ev_one (ev_cmp (op_eqD u64) opm_eq (calm_cmpD id) (ev_var (pv 0)) (ev_var (pv 1)) (by rfl))))))
    eb_nil)
    (eb_cons (es_if (et_val (ev_isi c.z_isinstance c.z_int (by decide +kernel) (ev_var (pv 1))))
    (eb_one (es_ret (ev_and (ev_isi c.z_isinstance c.z_int (by decide +kernel) (ev_var (pv 0))) (ev_and (ev_not (ev_isi c.z_isinstance c.z_bool (by decide +kernel) (ev_var (pv 0)))) (ev_one (ev_cmp (op_eqD u64) opm_eq (calm_cmpD id) (ev_var (pv 0)) (ev_var (pv 1)) (by rfl)))))))
    eb_nil)
    (eb_one (es_ret (ev_and (ev_isi c.z_isinstance c.z_str (by decide +kernel) (ev_var (pv 0))) (ev_and (ev_isi c.z_isinstance c.z_str (by decide +kernel) (ev_var (pv 1))) (ev_one (ev_cmp (op_eqD u64) opm_eq (calm_cmpD id) (ev_var (pv 0)) (ev_var (pv 1)) (by rfl)))))))))))
theorem sc_is_tuple : FnScope ["value", "many"] ["value", "many"] (defScope s_is_tuple) := ⟨rfl, rfl, rfl, by decide +kernel, rfl, by decide +kernel, by decide +kernel⟩
noncomputable def b_is_tuple_ : FS :=
  (sRet (fAnd (fThen (gIsi "tuple") (fVar 0)) (fOr (fOp gIsN (fVar 1) (fC .non)) (fOp gEq (fThen gLen (fVar 0)) (fVar 1)))))
noncomputable def g_is_tuple : List D → M D := fnM 2 b_is_tuple_
theorem ok_is_tuple {w : World} {K : PySem.W.Frag} {mg : Str → Option Value} {base : Heap} (c : Cn w K mg) : Fn PySem.Challenge.pw_alikeatrest_k78_what_is_a_net w K mg base 1 (He.ga K "is_tuple") c.fd_is_tuple ["value", "many"] g_is_tuple := by
  refine fn_mir c.F_is_tuple sc_is_tuple (k := 0) (fun cdv A outer s H E hr tk hp => ?_)
  have u1 := u1 hr; have u64 := u64 hr; have u65 := u65 hr
  exact (eb_one (es_ret (ev_and (ev_isi c.z_isinstance c.z_tuple (by decide +kernel) (ev_var (pv 0))) (ev_one (ev_or (ev_cmp op_isN opm_isN calm_isN (ev_var (pv 1)) ev_non (by rfl)) (ev_one (ev_cmp (op_eqD u64) opm_eq (calm_cmpD id) (ev_len c.z_len (ev_var (pv 0))) (ev_var (pv 1)) (by rfl))))))))
theorem sc_is_int : FnScope ["value"] ["value"] (defScope s_is_int) := ⟨rfl, rfl, rfl, by decide +kernel, rfl, by decide +kernel, by decide +kernel⟩
noncomputable def b_is_int_ : FS :=
  (sRet (fAnd (fThen (gIsi "int") (fVar 0)) (fUn gNot (fThen (gIsi "bool") (fVar 0)))))
noncomputable def g_is_int : List D → M D := fnM 1 b_is_int_
theorem ok_is_int {w : World} {K : PySem.W.Frag} {mg : Str → Option Value} {base : Heap} (c : Cn w K mg) : Fn PySem.Challenge.pw_alikeatrest_k78_what_is_a_net w K mg base 1 (He.ga K "is_int") c.fd_is_int ["value"] g_is_int := by
  refine fn_mir c.F_is_int sc_is_int (k := 0) (fun cdv A outer s H E hr tk hp => ?_)
  have u1 := u1 hr; have u64 := u64 hr; have u65 := u65 hr
  exact (eb_one (es_ret (ev_and (ev_isi c.z_isinstance c.z_int (by decide +kernel) (ev_var (pv 0))) (ev_one (ev_not (ev_isi c.z_isinstance c.z_bool (by decide +kernel) (ev_var (pv 0))))))))
theorem sc_is_number : FnScope ["value", "least", "most"] ["value", "least", "most"] (defScope s_is_number) := ⟨rfl, rfl, rfl, by decide +kernel, rfl, by decide +kernel, by decide +kernel⟩
noncomputable def b_is_number_ : FS :=
  (sRet (fAnd (fCall 1 [] g_is_int (aCons (fVar 0) aNil)) (fAnd (fOp gGe (fVar 0) (fVar 1)) (fOr (fOp gIsN (fVar 2) (fC .non)) (fOp gLe (fVar 0) (fVar 2))))))
noncomputable def g_is_number : List D → M D := fnM 3 b_is_number_
theorem ok_is_number {w : World} {K : PySem.W.Frag} {mg : Str → Option Value} {base : Heap} (c : Cn w K mg) : Fn PySem.Challenge.pw_alikeatrest_k78_what_is_a_net w K mg base 2 (He.ga K "is_number") c.fd_is_number ["value", "least", "most"] g_is_number := by
  refine fn_mir c.F_is_number sc_is_number (k := 1) (fun cdv A outer s H E hr tk hp => ?_)
  have u1 := u1 hr; have u64 := u64 hr; have u65 := u65 hr
  exact (eb_one (es_ret (ev_and (ec0 (ok_is_int c) (hr.mono (by decide)) c.m_is_int c.F_is_int.kp (b_is_int c) tk (ea_cons (ev_var (pv 0)) ea_nil)) (ev_and (ev_cmp op_ge opm_ge calm_ge (ev_var (pv 0)) (ev_var (pv 1)) (by rfl)) (ev_one (ev_or (ev_cmp op_isN opm_isN calm_isN (ev_var (pv 2)) ev_non (by rfl)) (ev_one (ev_cmp op_le opm_le calm_le (ev_var (pv 0)) (ev_var (pv 2)) (by rfl)))))))))
theorem sc_is_way : FnScope ["value", "many"] ["value", "many"] (defScope s_is_way) := ⟨rfl, rfl, rfl, by decide +kernel, rfl, by decide +kernel, by decide +kernel⟩
noncomputable def b_is_way_ : FS :=
  (sSeq (sIf (tOrM (tNotM (tE (fCall 2 [] g_is_tuple (aCons (fVar 0) (aCons (fC (.int 2)) aNil))))) (tOrM (tNotM (tE (fCall 3 [] g_is_number (aCons (fOp gIdx (fVar 0) (fC (.int 0))) (aCons (fC (.int 0)) (aCons (fOp gSub (fVar 1) (fC (.int 1))) aNil)))))) (tNotM (tE (fCall 3 [] g_is_number (aCons (fOp gIdx (fVar 0) (fC (.int 1))) (aCons (fC (.int 0)) (aCons (fVar 1) aNil))))))))
  (sRet (fC (.bl false)))
  sNx)
  (sRet (fOp gNe (fOp gIdx (fVar 0) (fC (.int 0))) (fOp gIdx (fVar 0) (fC (.int 1))))))
noncomputable def g_is_way : List D → M D := fnM 2 b_is_way_
theorem ok_is_way {w : World} {K : PySem.W.Frag} {mg : Str → Option Value} {base : Heap} (c : Cn w K mg) : Fn PySem.Challenge.pw_alikeatrest_k78_what_is_a_net w K mg base 3 (He.ga K "is_way") c.fd_is_way ["value", "many"] g_is_way := by
  obtain ⟨e_is_number_2, v_is_number_2, h_is_number_2⟩ := b_is_number_2 c
  obtain ⟨e_is_tuple_1, v_is_tuple_1, h_is_tuple_1⟩ := b_is_tuple_1 c
  refine fn_mir c.F_is_way sc_is_way (k := 2) (fun cdv A outer s H E hr tk hp => ?_)
  have u1 := u1 hr; have u64 := u64 hr; have u65 := u65 hr
  exact (eb_cons (es_if (ew_t (ew_or (et_not (et_val (ec (ok_is_tuple c) (hr.mono (by decide)) c.m_is_tuple c.F_is_tuple.kp h_is_tuple_1 v_is_tuple_1 (dd := []) (fun _ _ => rfl) tk (ea_cons (ev_var (pv 0)) (ea_cons ev_int ea_nil))))) (ew_or (et_not (et_val (ec (ok_is_number c) (hr.mono (by decide)) c.m_is_number c.F_is_number.kp h_is_number_2 v_is_number_2 (dd := []) (fun _ _ => rfl) tk (ea_cons (ev_ix u1 (ev_var (pv 0)) ev_int) (ea_cons ev_int (ea_cons (ev_op op_sub opm_sub calm_sub (ev_var (pv 1)) ev_int) ea_nil)))))) (ew_or1 (et_not (et_val (ec (ok_is_number c) (hr.mono (by decide)) c.m_is_number c.F_is_number.kp h_is_number_2 v_is_number_2 (dd := []) (fun _ _ => rfl) tk (ea_cons (ev_ix u1 (ev_var (pv 0)) ev_int) (ea_cons ev_int (ea_cons (ev_var (pv 1)) ea_nil))))))))))
    (eb_one (es_ret ev_bl))
    eb_nil)
    (eb_one (es_ret (ev_cmp (op_neD u64) opm_ne (calm_cmpD not) (ev_ix u1 (ev_var (pv 0)) ev_int) (ev_ix u1 (ev_var (pv 0)) ev_int) (by rfl)))))
theorem sc_are_ways : FnScope ["value", "many", "way"] ["value", "many"] (defScope s_are_ways) := ⟨rfl, rfl, rfl, by decide +kernel, rfl, by decide +kernel, by decide +kernel⟩
noncomputable def b_are_ways_ : FS :=
  (sSeq (sIf (tOrM (tNotM (tE (fCall 2 [.non] g_is_tuple (aCons (fVar 0) aNil)))) (tOrM (tE (fOp gGt (fThen gLen (fVar 0)) (fC (.int 14)))) (tE (fOp gGt (fThen gLenT (fComp (fThen gWalk (fVar 0)) [2] (gtName 2) (tNotM (tE (fCall 2 [] g_is_way (aCons (fVar 2) (aCons (fVar 1) aNil))))) (fC (.int 1)))) (fC (.int 0))))))
  (sRet (fC (.bl false)))
  sNx)
  (sRet (fOp gEq (fNew (fThen gItems (fVar 0))) (fNew (fThen gSortV (fVar 0))))))
noncomputable def g_are_ways : List D → M D := fnM 3 b_are_ways_
theorem ok_are_ways {w : World} {K : PySem.W.Frag} {mg : Str → Option Value} {base : Heap} (c : Cn w K mg) : Fn PySem.Challenge.pw_alikeatrest_k78_what_is_a_net w K mg base 4 (He.ga K "are_ways") c.fd_are_ways ["value", "many"] g_are_ways := by
  obtain ⟨e_is_tuple_0, v_is_tuple_0, h_is_tuple_0⟩ := b_is_tuple_0 c
  refine fn_mir c.F_are_ways sc_are_ways (k := 3) (fun cdv A outer s H E hr tk hp => ?_)
  have u1 := u1 hr; have u64 := u64 hr; have u65 := u65 hr
  exact (eb_cons (es_if (ew_t (ew_or (et_not (et_val (ec (ok_is_tuple c) (hr.mono (by decide)) c.m_is_tuple c.F_is_tuple.kp h_is_tuple_0 v_is_tuple_0 (dd := [.non]) (fun _ _ => ⟨_, _, rfl, rfl, rfl⟩) tk (ea_cons (ev_var (pv 0)) ea_nil)))) (ew_or (et_cmp op_gt opm_gt calm_gt (ev_len c.z_len (ev_var (pv 0))) (ev_gint 14 c.i_MOST_WAYS) (by rfl)) (ew_or1 (et_cmp op_gt opm_gt calm_gt (ev_lenT c.z_len (el_comp sc_are_ways.nd (ei_val (ev_var (pv 0))) (own := [("way", 2)]) (show BlkOk ["value", "many", "way"] (defScope s_are_ways) _ [("way", 2)] from ⟨rfl, by decide +kernel, by decide +kernel, by decide +kernel, by decide +kernel⟩) (tgOk_name (i := 2)) (fun s H C cl fp => (pg_name (i := 2) sc_are_ways.nd rfl (by first | exact Or.inl rfl | exact Or.inr rfl))) (fun s H C cl fp => (ets_one (et_not (et_val (ec0 (ok_is_way c) (hr.mono (by decide)) c.m_is_way c.F_is_way.kp (b_is_way c) takes0 (ea_cons (ev_var (pv 2)) (ea_cons (ev_var (pv 1)) ea_nil))))))) (fun s H C cl fp => ev_int))) ev_int (by rfl))))))
    (eb_one (es_ret ev_bl))
    eb_nil)
    (eb_one (es_ret (ev_cmp (op_eqD u64) opm_eq (calm_cmpD id) (ev_new (el_list c.z_list (ev_var (pv 0)))) (ev_new (el_sortV u64 c.z_sorted (ev_var (pv 0)))) (by rfl)))))
theorem sc_ways_at : FnScope ["net", "place", "way"] ["net", "place"] (defScope s_ways_at) := ⟨rfl, rfl, rfl, by decide +kernel, rfl, by decide +kernel, by decide +kernel⟩
noncomputable def zb_ways_at : En → M (List D) := fThen (fun xs => pure xs) (fComp (fThen gWalk (fOp gIdx (fVar 0) (fC (.int 1)))) [2] (gtName 2) (tE (fOp gEq (fOp gIdx (fVar 2) (fC (.int 0))) (fVar 1))) (fOp gIdx (fVar 2) (fC (.int 1))))
noncomputable def z_ways_at : List D → M (List D) := fnZ 3 zb_ways_at
theorem okz_ways_at {w : World} {K : PySem.W.Frag} {mg : Str → Option Value} {base : Heap} (c : Cn w K mg) : FnZ PySem.Challenge.pw_alikeatrest_k78_what_is_a_net w K mg base 1 (He.ga K "ways_at") c.fd_ways_at ["net", "place"] z_ways_at := by
  refine fn_mirZ c.F_ways_at sc_ways_at (k := 0) (fun cdv A outer s H E hr tk hp => ?_)
  have u1 := u1 hr; have u64 := u64 hr; have u65 := u65 hr
  exact (ez_tup c.z_tuple (el_comp sc_ways_at.nd (ei_val (ev_ix u1 (ev_var (pv 0)) ev_int)) (own := [("way", 2)]) (show BlkOk ["net", "place", "way"] (defScope s_ways_at) _ [("way", 2)] from ⟨rfl, by decide +kernel, by decide +kernel, by decide +kernel, by decide +kernel⟩) (tgOk_name (i := 2)) (fun s H C cl fp => (pg_name (i := 2) sc_ways_at.nd rfl (by first | exact Or.inl rfl | exact Or.inr rfl))) (fun s H C cl fp => (ets_one (et_cmp (op_eqD u64) opm_eq (calm_cmpD id) (ev_ix u1 (ev_var (pv 2)) ev_int) (ev_var (pv 1)) (by rfl)))) (fun s H C cl fp => (ev_ix u1 (ev_var (pv 2)) ev_int))))
noncomputable def b_ways_at_ : FS :=
  (sRet (fThen gTupT (fComp (fThen gWalk (fOp gIdx (fVar 0) (fC (.int 1)))) [2] (gtName 2) (tE (fOp gEq (fOp gIdx (fVar 2) (fC (.int 0))) (fVar 1))) (fOp gIdx (fVar 2) (fC (.int 1))))))
noncomputable def g_ways_at : List D → M D := fnM 3 b_ways_at_
theorem ok_ways_at {w : World} {K : PySem.W.Frag} {mg : Str → Option Value} {base : Heap} (c : Cn w K mg) : Fn PySem.Challenge.pw_alikeatrest_k78_what_is_a_net w K mg base 1 (He.ga K "ways_at") c.fd_ways_at ["net", "place"] g_ways_at := by
  refine fn_mir c.F_ways_at sc_ways_at (k := 0) (fun cdv A outer s H E hr tk hp => ?_)
  have u1 := u1 hr; have u64 := u64 hr; have u65 := u65 hr
  exact (eb_one (es_ret (ev_tupT c.z_tuple (el_comp sc_ways_at.nd (ei_val (ev_ix u1 (ev_var (pv 0)) ev_int)) (own := [("way", 2)]) (show BlkOk ["net", "place", "way"] (defScope s_ways_at) _ [("way", 2)] from ⟨rfl, by decide +kernel, by decide +kernel, by decide +kernel, by decide +kernel⟩) (tgOk_name (i := 2)) (fun s H C cl fp => (pg_name (i := 2) sc_ways_at.nd rfl (by first | exact Or.inl rfl | exact Or.inr rfl))) (fun s H C cl fp => (ets_one (et_cmp (op_eqD u64) opm_eq (calm_cmpD id) (ev_ix u1 (ev_var (pv 2)) ev_int) (ev_var (pv 1)) (by rfl)))) (fun s H C cl fp => (ev_ix u1 (ev_var (pv 2)) ev_int))))))
theorem sc_check_net : FnScope ["value", "many", "ways", "place"] ["value"] (defScope s_check_net) := ⟨rfl, rfl, rfl, by decide +kernel, rfl, by decide +kernel, by decide +kernel⟩
noncomputable def b_check_net_ : FS :=
  (sSeq (sIf (tNotM (tE (fCall 2 [] g_is_tuple (aCons (fVar 0) (aCons (fC (.int 2)) aNil)))))
  (sRaise "BadNet" "at" (aCons (fUn gNeg (fC (.int 1))) aNil))
  sNx)
  (sSeq (sAsg (fVar 0) (gtTup 2 (gtCons (gtName 1) (gtCons (gtName 2) gtNil))))
  (sSeq (sIf (tNotM (tE (fCall 3 [] g_is_number (aCons (fVar 1) (aCons (fC (.int 1)) (aCons (fC (.int 7)) aNil))))))
  (sRaise "BadNet" "at" (aCons (fC (.int 0)) aNil))
  sNx)
  (sSeq (sIf (tNotM (tE (fCall 2 [] g_are_ways (aCons (fVar 2) (aCons (fVar 1) aNil)))))
  (sRaise "BadNet" "at" (aCons (fC (.int 1)) aNil))
  sNx)
  (sSeq (sFor (fThen bRange1 (aCons (fVar 1) aNil)) (gtName 3)
  (sIf (tE (fOp gEq (fThen gLen (fCall 2 [] g_ways_at (aCons (fVar 0) (aCons (fVar 3) aNil)))) (fC (.int 0))))
  (sRaise "BadNet" "at" (aCons (fOp gAdd (fC (.int 2)) (fVar 3)) aNil))
  sNx))
  (sRet (fVar 0)))))))
noncomputable def g_check_net : List D → M D := fnM 4 b_check_net_
theorem ok_check_net {w : World} {K : PySem.W.Frag} {mg : Str → Option Value} {base : Heap} (c : Cn w K mg) : Fn PySem.Challenge.pw_alikeatrest_k78_what_is_a_net w K mg base 6 (He.ga K "check_net") c.fd_check_net ["value"] g_check_net := by
  obtain ⟨e_is_number_2, v_is_number_2, h_is_number_2⟩ := b_is_number_2 c
  obtain ⟨e_is_tuple_1, v_is_tuple_1, h_is_tuple_1⟩ := b_is_tuple_1 c
  refine fn_mir c.F_check_net sc_check_net (k := 5) (fun cdv A outer s H E hr tk hp => ?_)
  have u1 := u1 hr; have u64 := u64 hr; have u65 := u65 hr
  exact (eb_cons (es_if (et_not (et_val (ec (ok_is_tuple c) (hr.mono (by decide)) c.m_is_tuple c.F_is_tuple.kp h_is_tuple_1 v_is_tuple_1 (dd := []) (fun _ _ => rfl) tk (ea_cons (ev_var (pv 0)) (ea_cons ev_int ea_nil)))))
    (eb_one (es_raise rfl c.T_BadNet hr tk (ea_cons (ev_un un_neg unm_neg calm_neg ev_int) ea_nil)))
    eb_nil)
    (eb_cons (es_asg (ev_var (pv 0)) (eg_tup (pg_tup rfl (egs_cons (eg_name (pg_name (i := 1) sc_check_net.nd rfl (by first | exact Or.inl rfl | exact Or.inr rfl))) (egs_cons (eg_name (pg_name (i := 2) sc_check_net.nd rfl (by first | exact Or.inl rfl | exact Or.inr rfl))) egs_nil)))))
    (eb_cons (es_if (et_not (et_val (ec (ok_is_number c) (hr.mono (by decide)) c.m_is_number c.F_is_number.kp h_is_number_2 v_is_number_2 (dd := []) (fun _ _ => rfl) tk (ea_cons (ev_var (pv 1)) (ea_cons ev_int (ea_cons (ev_gint 7 c.i_MOST_PLACES) ea_nil))))))
    (eb_one (es_raise rfl c.T_BadNet hr tk (ea_cons ev_int ea_nil)))
    eb_nil)
    (eb_cons (es_if (et_not (et_val (ec0 (ok_are_ways c) (hr.mono (by decide)) c.m_are_ways c.F_are_ways.kp (b_are_ways c) tk (ea_cons (ev_var (pv 2)) (ea_cons (ev_var (pv 1)) ea_nil)))))
    (eb_one (es_raise rfl c.T_BadNet hr tk (ea_cons ev_int ea_nil)))
    eb_nil)
    (eb_cons (es_for hp (ei_range1 c.z_range (ea_cons (ev_var (pv 1)) ea_nil)) (eg_name (pg_name (i := 3) sc_check_net.nd rfl (by first | exact Or.inl rfl | exact Or.inr rfl)))
    (eb_one (es_if (et_cmp (op_eqD u64) opm_eq (calm_cmpD id) (ev_len c.z_len (ec0 (ok_ways_at c) (hr.mono (by decide)) c.m_ways_at c.F_ways_at.kp (b_ways_at c) tk (ea_cons (ev_var (pv 0)) (ea_cons (ev_var (pv 3)) ea_nil)))) ev_int (by rfl))
    (eb_one (es_raise rfl c.T_BadNet hr tk (ea_cons (ev_op op_addA opm_add calm_add ev_int (ev_var (pv 3))) ea_nil)))
    eb_nil)))
    (eb_one (es_ret (ev_var (pv 0)))))))))
theorem sc__law_told : FnScope ["value", "named", "e"] ["value", "named"] (defScope s__law_told) := ⟨rfl, rfl, rfl, by decide +kernel, rfl, by decide +kernel, by decide +kernel⟩
noncomputable def b__law_told_ : FS :=
  (sTry (tabOf rs "OwnError") (some 2) (sRet (fTup (aCons (fC (.str "told")) (aCons (fIf (tE (fVar 1)) (fCallK 0 1 1 (fun a b => a ++ b) g_check_net aNil (aCons (fVar 0) aNil)) (fCall 1 [] g_check_net (aCons (fVar 0) aNil))) aNil))))
  (fun x => (sOrElse (tOrM (tNotM (tE (fTab x (tabOf rs "BadNet")))) (tOrM (tE (fTab x (tabOf rs "BadWeb"))) (tOrM (tE (fTab x (tabOf rs "BadPlace"))) (tE (fTab x (tabOf rs "Refused")))))) (fTup (aCons (fC (.str "other")) (aCons (fC (.int 0)) aNil))) (sRet (fTup (aCons (fC (.str "refused")) (aCons (fFldT (tabOf rs "OwnError") x "at") aNil)))))))
noncomputable def g__law_told : List D → M D := fnM 3 b__law_told_
theorem ok__law_told {w : World} {K : PySem.W.Frag} {mg : Str → Option Value} {base : Heap} (c : Cn w K mg) : Fn PySem.Challenge.pw_alikeatrest_k78_what_is_a_net w K mg base 7 (He.ga K "_law_told") c.fd__law_told ["value", "named"] g__law_told := by
  refine fn_mir c.F__law_told sc__law_told (k := 6) (fun cdv A outer s H E hr tk hp => ?_)
  have u1 := u1 hr; have u64 := u64 hr; have u65 := u65 hr
  exact (eb_one (es_tryAs (i := 2) rfl rfl sc__law_told.nd rfl rfl ⟨rfl, by decide, Or.inl c.n_OwnError⟩ tk (c.errs.exm "OwnError") (fun W' pn xe tk' hp' => (eb_one (es_ret (ev_tup (ea_cons ev_str (ea_cons (ev_if (et_val (ev_var (pv 1))) (eck0 (ok_check_net c) (hr.mono (by decide)) c.m_check_net c.F_check_net.kp (kb_all c.F_check_net 0 ["value"] (fun _ _ _ _ _ _ us ws h1 h2 => match us, ws, h1, h2 with | [], [_], _, _ => rfl)) tk' (ek_cons (ev_var (pv 0)) ek_nil)) (ec0 (ok_check_net c) (hr.mono (by decide)) c.m_check_net c.F_check_net.kp (b_check_net c) tk' (ea_cons (ev_var (pv 0)) ea_nil))) ea_nil))))))
    (fun a oe cls d pn x hz hv => (jb_ifRet (jt_w (jw_or (jt_not (jt_val (jv_isi hz hv rfl (pv 2) c.z_isinstance c.n_BadNet (c.errs.kit "BadNet")))) (jw_or (jt_val (jv_isi hz hv rfl (pv 2) c.z_isinstance c.n_BadWeb (c.errs.kit "BadWeb"))) (jw_or (jt_val (jv_isi hz hv rfl (pv 2) c.z_isinstance c.n_BadPlace (c.errs.kit "BadPlace"))) (jw_or1 (jt_val (jv_isi hz hv rfl (pv 2) c.z_isinstance c.n_Refused (c.errs.kit "Refused")))))))) (jv_plain (ev_tup (ea_cons ev_str (ea_cons ev_int ea_nil)))) (jb_one (js_ret (jv_tup (ja_cons (jv_plain ev_str) (ja_cons (jv_fldT "OwnError" c.errs hz hv rfl (pv 2) (by decide)) ja_nil)))))))))
theorem sc__law_twice : FnScope ["net", "one", "two"] ["net"] (defScope s__law_twice) := ⟨rfl, rfl, rfl, by decide +kernel, rfl, by decide +kernel, by decide +kernel⟩
noncomputable def b__law_twice_ : FS :=
  (sSeq (sFor (fThen bRange1 (aCons (fOp gIdx (fVar 0) (fC (.int 0))) aNil)) (gtName 1)
  (sFor (fThen bRange1 (aCons (fOp gIdx (fVar 0) (fC (.int 0))) aNil)) (gtName 2)
  (sIf (tAndM (tE (fOp gNe (fVar 1) (fVar 2))) (tE (fOp gNe (fBm "list" gCount (fCall 2 [] g__law_ways (aCons (fVar 0) (aCons (fVar 1) aNil))) (aCons (fVar 2) aNil)) (fBm "list" gCount (fCall 2 [] g__law_ways (aCons (fVar 0) (aCons (fVar 2) aNil))) (aCons (fVar 1) aNil)))))
  (sRet (fC (.bl false)))
  sNx)))
  (sRet (fC (.bl true))))
noncomputable def g__law_twice : List D → M D := fnM 3 b__law_twice_
theorem ok__law_twice {w : World} {K : PySem.W.Frag} {mg : Str → Option Value} {base : Heap} (c : Cn w K mg) : Fn PySem.Challenge.pw_alikeatrest_k78_what_is_a_net w K mg base 2 (He.ga K "_law_twice") c.fd__law_twice ["net"] g__law_twice := by
  refine fn_mir c.F__law_twice sc__law_twice (k := 1) (fun cdv A outer s H E hr tk hp => ?_)
  have u1 := u1 hr; have u64 := u64 hr; have u65 := u65 hr
  exact (eb_cons (es_for hp (ei_range1 c.z_range (ea_cons (ev_ix u1 (ev_var (pv 0)) ev_int) ea_nil)) (eg_name (pg_name (i := 1) sc__law_twice.nd rfl (by first | exact Or.inl rfl | exact Or.inr rfl)))
    (eb_one (es_for hp (ei_range1 c.z_range (ea_cons (ev_ix u1 (ev_var (pv 0)) ev_int) ea_nil)) (eg_name (pg_name (i := 2) sc__law_twice.nd rfl (by first | exact Or.inl rfl | exact Or.inr rfl)))
    (eb_one (es_if (ew_t (ew_and (et_cmp (op_neD u64) opm_ne (calm_cmpD not) (ev_var (pv 1)) (ev_var (pv 2)) (by rfl)) (ew_and1 (et_cmp (op_neD u64) opm_ne (calm_cmpD not) (ev_lcount (ec0 (ok__law_ways c) (hr.mono (by decide)) c.m__law_ways c.F__law_ways.kp (b__law_ways c) tk (ea_cons (ev_var (pv 0)) (ea_cons (ev_var (pv 1)) ea_nil))) (ea_cons (ev_var (pv 2)) ea_nil)) (ev_lcount (ec0 (ok__law_ways c) (hr.mono (by decide)) c.m__law_ways c.F__law_ways.kp (b__law_ways c) tk (ea_cons (ev_var (pv 0)) (ea_cons (ev_var (pv 2)) ea_nil))) (ea_cons (ev_var (pv 1)) ea_nil)) (by rfl)))))
    (eb_one (es_ret ev_bl))
    eb_nil)))))
    (eb_one (es_ret ev_bl)))
theorem sc_is_mutual : FnScope ["net", "one", "two"] ["net"] (defScope s_is_mutual) := ⟨rfl, rfl, rfl, by decide +kernel, rfl, by decide +kernel, by decide +kernel⟩
noncomputable def b_is_mutual_ : FS :=
  (sSeq (sFor (fThen bRange1 (aCons (fOp gIdx (fVar 0) (fC (.int 0))) aNil)) (gtName 1)
  (sFor (fThen bRange1 (aCons (fVar 1) aNil)) (gtName 2)
  (sIf (tE (fOp gNe (fun en => (fCallZ 2 z_ways_at (aCons (fVar 0) (aCons (fVar 1) aNil))) en >>= fun xs => ((aCons (fVar 2) aNil) en >>= fCntA) >>= fun k => fCntZ1 k xs) (fun en => (fCallZ 2 z_ways_at (aCons (fVar 0) (aCons (fVar 2) aNil))) en >>= fun xs => ((aCons (fVar 1) aNil) en >>= fCntA) >>= fun k => fCntZ1 k xs)))
  (sRet (fC (.bl false)))
  sNx)))
  (sRet (fC (.bl true))))
noncomputable def g_is_mutual : List D → M D := fnM 3 b_is_mutual_
theorem ok_is_mutual {w : World} {K : PySem.W.Frag} {mg : Str → Option Value} {base : Heap} (c : Cn w K mg) : Fn PySem.Challenge.pw_alikeatrest_k78_what_is_a_net w K mg base 2 (He.ga K "is_mutual") c.fd_is_mutual ["net"] g_is_mutual := by
  refine fn_mir c.F_is_mutual sc_is_mutual (k := 1) (fun cdv A outer s H E hr tk hp => ?_)
  have u1 := u1 hr; have u64 := u64 hr; have u65 := u65 hr
  exact (eb_cons (es_for hp (ei_range1 c.z_range (ea_cons (ev_ix u1 (ev_var (pv 0)) ev_int) ea_nil)) (eg_name (pg_name (i := 1) sc_is_mutual.nd rfl (by first | exact Or.inl rfl | exact Or.inr rfl)))
    (eb_one (es_for hp (ei_range1 c.z_range (ea_cons (ev_var (pv 1)) ea_nil)) (eg_name (pg_name (i := 2) sc_is_mutual.nd rfl (by first | exact Or.inl rfl | exact Or.inr rfl)))
    (eb_one (es_if (et_cmp (op_neD u64) opm_ne (calm_cmpD not) (ez_count (ecz (okz_ways_at c) (hr.mono (by decide)) c.m_ways_at c.F_ways_at.kp (b_ways_at c) tk (ea_cons (ev_var (pv 0)) (ea_cons (ev_var (pv 1)) ea_nil))) (ea_cons (ev_var (pv 2)) ea_nil)) (ez_count (ecz (okz_ways_at c) (hr.mono (by decide)) c.m_ways_at c.F_ways_at.kp (b_ways_at c) tk (ea_cons (ev_var (pv 0)) (ea_cons (ev_var (pv 2)) ea_nil))) (ea_cons (ev_var (pv 1)) ea_nil)) (by rfl))
    (eb_one (es_ret ev_bl))
    eb_nil)))))
    (eb_one (es_ret ev_bl)))
theorem sc_is_rooted : FnScope ["net", "found", "turn", "start", "goal"] ["net"] (defScope s_is_rooted) := ⟨rfl, rfl, rfl, by decide +kernel, rfl, by decide +kernel, by decide +kernel⟩
noncomputable def b_is_rooted_ : FS :=
  (sSeq (sAsg (fDisp (dCons (fOp gIdx (fVar 0) (fC (.int 0))) (fC (.bl true)) dNil)) (gtName 1))
  (sSeq (sFor (fThen bRange1 (aCons (fOp gIdx (fVar 0) (fC (.int 0))) aNil)) (gtName 2)
  (sFor (fThen gWalk (fOp gIdx (fVar 0) (fC (.int 1)))) (gtTup 2 (gtCons (gtName 3) (gtCons (gtName 4) gtNil)))
  (sIf (tE (fOp (gIn id) (fVar 4) (fVar 1)))
  (sAsg (fC (.bl true)) (gtSub (fVar 1) (fVar 3)))
  sNx)))
  (sRet (fOp gEq (fThen gLen (fVar 1)) (fOp gAdd (fOp gIdx (fVar 0) (fC (.int 0))) (fC (.int 1)))))))
noncomputable def g_is_rooted : List D → M D := fnM 5 b_is_rooted_
theorem ok_is_rooted {w : World} {K : PySem.W.Frag} {mg : Str → Option Value} {base : Heap} (c : Cn w K mg) : Fn PySem.Challenge.pw_alikeatrest_k78_what_is_a_net w K mg base 1 (He.ga K "is_rooted") c.fd_is_rooted ["net"] g_is_rooted := by
  refine fn_mir c.F_is_rooted sc_is_rooted (k := 0) (fun cdv A outer s H E hr tk hp => ?_)
  have u1 := u1 hr; have u64 := u64 hr; have u65 := u65 hr
  exact (eb_cons (es_asg (ev_disp (eps_cons (ev_ix u1 (ev_var (pv 0)) ev_int) ev_bl eps_nil) rfl rfl (by simp) rfl) (eg_name (pg_name (i := 1) sc_is_rooted.nd rfl (by first | exact Or.inl rfl | exact Or.inr rfl))))
    (eb_cons (es_for hp (ei_range1 c.z_range (ea_cons (ev_ix u1 (ev_var (pv 0)) ev_int) ea_nil)) (eg_name (pg_name (i := 2) sc_is_rooted.nd rfl (by first | exact Or.inl rfl | exact Or.inr rfl)))
    (eb_one (es_for hp (ei_val (ev_ix u1 (ev_var (pv 0)) ev_int)) (eg_tup (pg_tup rfl (egs_cons (eg_name (pg_name (i := 3) sc_is_rooted.nd rfl (by first | exact Or.inl rfl | exact Or.inr rfl))) (egs_cons (eg_name (pg_name (i := 4) sc_is_rooted.nd rfl (by first | exact Or.inl rfl | exact Or.inr rfl))) egs_nil))))
    (eb_one (es_if (et_cmp (op_inA u65) (opm_in id) (calm_in id) (ev_var (pv 4)) (ev_var (pv 1)) (by rfl))
    (eb_one (es_asg ev_bl (eg_sub (W := W0) u1 (ev_var (pv 1)) (ev_var (pv 3)))))
    eb_nil)))))
    (eb_one (es_ret (ev_cmp (op_eqD u64) opm_eq (calm_cmpD id) (ev_len c.z_len (ev_var (pv 1))) (ev_op op_addA opm_add calm_add (ev_ix u1 (ev_var (pv 0)) ev_int) ev_int) (by rfl))))))
theorem sc_law : FnScope ["script", "k", "box", "net", "place", "value", "at"] ["script"] (defScope s_law) := ⟨rfl, rfl, rfl, by decide +kernel, rfl, by decide +kernel, by decide +kernel⟩
noncomputable def b_law_ : FS :=
  (sSeq (sFor (fThen bRange1 (aCons (fCallB bMax (aCons (fC (.int 2)) (aCons (fCallB bMin (aCons (fThen gLen (fVar 0)) (aCons (fC (.int 5)) aNil))) aNil))) aNil)) (gtName 1)
  (sSeq (sAsg (fCall 2 [] g__law_box (aCons (fVar 0) (aCons (fVar 1) aNil))) (gtName 2))
  (sFor (fThen gWalkT (fLst (aCons (fCall 3 [] g__law_net (aCons (fVar 2) (aCons (fC (.int 7)) (aCons (fC (.int 14)) aNil)))) (aCons (fCall 3 [] g__law_mutual (aCons (fVar 2) (aCons (fC (.int 5)) (aCons (fC (.int 14)) aNil)))) aNil)))) (gtName 3)
  (sSeq (sIf (tNotM (tE (fCall 2 [] (g__law_same 8) (aCons (fCall 2 [] g__law_told (aCons (fVar 3) (aCons (fOp gEq (fCall 2 [] g__law_take (aCons (fVar 2) (aCons (fC (.int 2)) aNil))) (fC (.int 0))) aNil))) (aCons (fTup (aCons (fC (.str "told")) (aCons (fVar 3) aNil))) aNil)))))
  (sRet (fC (.bl false)))
  sNx)
  (sSeq (sFor (fThen gWalk (fCall 2 [] g__law_bent (aCons (fVar 2) (aCons (fVar 3) aNil)))) (gtTup 2 (gtCons (gtName 5) (gtCons (gtName 6) gtNil)))
  (sIf (tNotM (tE (fCall 2 [] (g__law_same 8) (aCons (fCall 2 [] g__law_told (aCons (fVar 5) (aCons (fC (.bl false)) aNil))) (aCons (fTup (aCons (fC (.str "refused")) (aCons (fVar 6) aNil))) aNil)))))
  (sRet (fC (.bl false)))
  sNx))
  (sSeq (sIf (tOrM (tNotM (tE (fCall 2 [] (g__law_same 8) (aCons (fCall 1 [] g_is_rooted (aCons (fVar 3) aNil)) (aCons (fCall 1 [] g__law_rooted (aCons (fVar 3) aNil)) aNil))))) (tNotM (tE (fCall 2 [] (g__law_same 8) (aCons (fCall 1 [] g_is_mutual (aCons (fVar 3) aNil)) (aCons (fCall 1 [] g__law_twice (aCons (fVar 3) aNil)) aNil))))))
  (sRet (fC (.bl false)))
  sNx)
  (sFor (fThen bRange1 (aCons (fOp gIdx (fVar 3) (fC (.int 0))) aNil)) (gtName 4)
  (sIf (tNotM (tE (fCall 2 [] (g__law_same 8) (aCons (fCallK 0 2 2 (fun a b => a ++ b) g_ways_at aNil (aCons (fVar 3) (aCons (fVar 4) aNil))) (aCons (fThen gTupV (fCall 2 [] g__law_ways (aCons (fVar 3) (aCons (fVar 4) aNil)))) aNil)))))
  (sRet (fC (.bl false)))
  sNx))))))))
  (sRet (fC (.bl true))))
noncomputable def g_law : List D → M D := fnM 7 b_law_
theorem ok_law {w : World} {K : PySem.W.Frag} {mg : Str → Option Value} {base : Heap} (c : Cn w K mg) : Fn PySem.Challenge.pw_alikeatrest_k78_what_is_a_net w K mg base 10 (He.ga K "law") c.fd_law ["script"] g_law := by
  refine fn_mir c.F_law sc_law (k := 9) (fun cdv A outer s H E hr tk hp => ?_)
  have u1 := u1 hr; have u64 := u64 hr; have u65 := u65 hr
  exact (eb_cons (es_for hp (ei_range1 c.z_range (ea_cons (ev_max2 c.z_max (ea_cons ev_int (ea_cons (ev_min2 c.z_min (ea_cons (ev_len c.z_len (ev_var (pv 0))) (ea_cons ev_int ea_nil))) ea_nil))) ea_nil)) (eg_name (pg_name (i := 1) sc_law.nd rfl (by first | exact Or.inl rfl | exact Or.inr rfl)))
    (eb_cons (es_asg (ec0 (ok__law_box c) (hr.mono (by decide)) c.m__law_box c.F__law_box.kp (b__law_box c) tk (ea_cons (ev_var (pv 0)) (ea_cons (ev_var (pv 1)) ea_nil))) (eg_name (pg_name (i := 2) sc_law.nd rfl (by first | exact Or.inl rfl | exact Or.inr rfl))))
    (eb_one (es_for hp (ei_tmp (el_lst (ea_cons (ec0 (ok__law_net c) (hr.mono (by decide)) c.m__law_net c.F__law_net.kp (b__law_net c) tk (ea_cons (ev_var (pv 2)) (ea_cons ev_int (ea_cons ev_int ea_nil)))) (ea_cons (ec0 (ok__law_mutual c) (hr.mono (by decide)) c.m__law_mutual c.F__law_mutual.kp (b__law_mutual c) tk (ea_cons (ev_var (pv 2)) (ea_cons ev_int (ea_cons ev_int ea_nil)))) ea_nil)))) (eg_name (pg_name (i := 3) sc_law.nd rfl (by first | exact Or.inl rfl | exact Or.inr rfl)))
    (eb_cons (es_if (et_not (et_val (ec0 (ok__law_same c 8) (hr.mono (by decide)) c.m__law_same c.F__law_same.kp (b__law_same c) tk (ea_cons (ec0 (ok__law_told c) (hr.mono (by decide)) c.m__law_told c.F__law_told.kp (b__law_told c) tk (ea_cons (ev_var (pv 3)) (ea_cons (ev_cmp (op_eqD u64) opm_eq (calm_cmpD id) (ec0 (ok__law_take c) (hr.mono (by decide)) c.m__law_take c.F__law_take.kp (b__law_take c) tk (ea_cons (ev_var (pv 2)) (ea_cons ev_int ea_nil))) ev_int (by rfl)) ea_nil))) (ea_cons (ev_tup (ea_cons ev_str (ea_cons (ev_var (pv 3)) ea_nil))) ea_nil)))))
    (eb_one (es_ret ev_bl))
    eb_nil)
    (eb_cons (es_for hp (ei_val (ec0 (ok__law_bent c) (hr.mono (by decide)) c.m__law_bent c.F__law_bent.kp (b__law_bent c) tk (ea_cons (ev_var (pv 2)) (ea_cons (ev_var (pv 3)) ea_nil)))) (eg_tup (pg_tup rfl (egs_cons (eg_name (pg_name (i := 5) sc_law.nd rfl (by first | exact Or.inl rfl | exact Or.inr rfl))) (egs_cons (eg_name (pg_name (i := 6) sc_law.nd rfl (by first | exact Or.inl rfl | exact Or.inr rfl))) egs_nil))))
    (eb_one (es_if (et_not (et_val (ec0 (ok__law_same c 8) (hr.mono (by decide)) c.m__law_same c.F__law_same.kp (b__law_same c) tk (ea_cons (ec0 (ok__law_told c) (hr.mono (by decide)) c.m__law_told c.F__law_told.kp (b__law_told c) tk (ea_cons (ev_var (pv 5)) (ea_cons ev_bl ea_nil))) (ea_cons (ev_tup (ea_cons ev_str (ea_cons (ev_var (pv 6)) ea_nil))) ea_nil)))))
    (eb_one (es_ret ev_bl))
    eb_nil)))
    (eb_cons (es_if (ew_t (ew_or (et_not (et_val (ec0 (ok__law_same c 8) (hr.mono (by decide)) c.m__law_same c.F__law_same.kp (b__law_same c) tk (ea_cons (ec0 (ok_is_rooted c) (hr.mono (by decide)) c.m_is_rooted c.F_is_rooted.kp (b_is_rooted c) tk (ea_cons (ev_var (pv 3)) ea_nil)) (ea_cons (ec0 (ok__law_rooted c) (hr.mono (by decide)) c.m__law_rooted c.F__law_rooted.kp (b__law_rooted c) tk (ea_cons (ev_var (pv 3)) ea_nil)) ea_nil))))) (ew_or1 (et_not (et_val (ec0 (ok__law_same c 8) (hr.mono (by decide)) c.m__law_same c.F__law_same.kp (b__law_same c) tk (ea_cons (ec0 (ok_is_mutual c) (hr.mono (by decide)) c.m_is_mutual c.F_is_mutual.kp (b_is_mutual c) tk (ea_cons (ev_var (pv 3)) ea_nil)) (ea_cons (ec0 (ok__law_twice c) (hr.mono (by decide)) c.m__law_twice c.F__law_twice.kp (b__law_twice c) tk (ea_cons (ev_var (pv 3)) ea_nil)) ea_nil))))))))
    (eb_one (es_ret ev_bl))
    eb_nil)
    (eb_one (es_for hp (ei_range1 c.z_range (ea_cons (ev_ix u1 (ev_var (pv 3)) ev_int) ea_nil)) (eg_name (pg_name (i := 4) sc_law.nd rfl (by first | exact Or.inl rfl | exact Or.inr rfl)))
    (eb_one (es_if (et_not (et_val (ec0 (ok__law_same c 8) (hr.mono (by decide)) c.m__law_same c.F__law_same.kp (b__law_same c) tk (ea_cons (eck0 (ok_ways_at c) (hr.mono (by decide)) c.m_ways_at c.F_ways_at.kp (kb_all c.F_ways_at 0 ["net", "place"] (fun _ _ _ _ _ _ us ws h1 h2 => match us, ws, h1, h2 with | [], [_, _], _, _ => rfl)) tk (ek_cons (ev_var (pv 3)) (ek_cons (ev_var (pv 4)) ek_nil))) (ea_cons (ev_tupV c.z_tuple (ec0 (ok__law_ways c) (hr.mono (by decide)) c.m__law_ways c.F__law_ways.kp (b__law_ways c) tk (ea_cons (ev_var (pv 3)) (ea_cons (ev_var (pv 4)) ea_nil)))) ea_nil)))))
    (eb_one (es_ret ev_bl))
    eb_nil)))))))))))
    (eb_one (es_ret ev_bl)))
def lawK : Nat := 10
theorem law_all (hp : ∀ ns : List Int, ns.length ≤ 63 → (g_law [.ref 0] [.ro (ns.map D.int)]).Wp (fun d _ => d = .bl true) fun _ _ => False) : PySem.Challenge.rw_alikeatrest_k78_what_is_a_net.Holds := by
  w_on; o_law
  refine HandSHeadRun.head_any (r := PySem.W.OpenLaw.row PySem.Challenge.rw_alikeatrest_k78_what_is_a_net) (q := PySem.W.view (PySem.W.OpenLaw.row PySem.Challenge.rw_alikeatrest_k78_what_is_a_net).prog [32]) (H := hk) (ob := ob) (M := 4000) (loose := ["is_int", "is_number", "is_tuple", "is_way", "are_ways", "check_net", "ways_at", "is_rooted", "is_mutual", "_law_box", "_law_take", "_law_pick", "_law_same", "_law_net", "_law_goal", "_law_mutual", "_law_ways", "_law_rooted", "_law_told", "_law_bent", "_law_twice", "MOST_PLACES", "MOST_WAYS", "OwnError", "BadWeb", "BadPlace", "BadNet", "Refused"])
    (d := HandSHeadRun.topDef (PySem.W.OpenLaw.row PySem.Challenge.rw_alikeatrest_k78_what_is_a_net).prog 32) (kwd := []) ob_eq (by kernel_rfl) (fun s => by kernel_rfl) run (by kernel_rfl) (by kernel_rfl) (by kernel_rfl) (by rfl) (by first | assumption | decide +kernel) (by decide +kernel) ⟨rfl, rfl, rfl, rfl, rfl, by decide +kernel⟩ ?hw ?hc
  case hw => w_witness2
  case hc =>
    refine walk_mir (l := PySem.Challenge.rw_alikeatrest_k78_what_is_a_net) (n := 63) (k := 10) (x := "script") rfl (by decide) (by kernel_rfl) ⟨rfl, by decide, by decide⟩ ?_
    intro w mg fa h Y G hmg0
    obtain ⟨K, KX, c⟩ := Y
    obtain ⟨cn⟩ := cn_of (w := w) KX G c
    have hmg : mg ("law" : PySem.Str) = some (.ref fa) := by
      have e : (HandSHeadRun.topDef (PySem.W.OpenLaw.row PySem.Challenge.rw_alikeatrest_k78_what_is_a_net).prog 32).name = ("law" : PySem.Str) := by kernel_rfl
      rw [← e]
      exact hmg0
    have e := hmg.symm.trans cn.m_law
    cases e
    have b := FunD.bindsA (ps := ["script"]) cn.F_law fun _ _ _ _ _ _ us hl => match us, hl with | [_], _ => rfl
    exact ⟨K, cn.fd_law, g_law, KX, c.nl, fun s v => b s [v] rfl, hp, fun base _ _ => ok_law cn⟩
end K78
end part_K78
section part_P78a
set_option maxHeartbeats 1000000
namespace Mir
open PySem L2
/-- a reference is to a list -/
def okR (st : Sto) : D → Prop
  | .ref i => ∃ xs, st[i]? = some (.lst xs)
  | _ => True
def isInt : D → Bool
  | .int _ => true
  | .bl _ => true
  | _ => false
def isBool : D → Bool
  | .bl _ => true
  | _ => false
def isTup : D → Bool
  | .tup _ => true
  | _ => false
section
variable {Q : D → Sto → Prop} {E : Exn → Sto → Prop} {st : Sto} {d : D}
theorem ty_ref {i : Nat} {xs : List D} (h : st[i]? = some (.lst xs)) : tyName st (.ref i) = some "list" := by
  show obName st[i]? = _
  rw [h]
  rfl
theorem k_bool_bool' : kitB "bool" "bool" = some true := by decide +kernel
theorem k_tuple_bool : kitB "tuple" "bool" = some false := by decide +kernel
theorem k_non_bool : kitB "NoneType" "bool" = some false := by decide +kernel
theorem k_list_bool : kitB "list" "bool" = some false := by decide +kernel
theorem k_tuple_str : kitB "tuple" "str" = some false := by decide +kernel
theorem k_list_str : kitB "list" "str" = some false := by decide +kernel
theorem v_is_int (h : okR st d) : (gIsi "int" d st).Wp Q E ↔ Q (.bl (isInt d)) st := by
  cases d with
  | non => exact v_isi rfl k_non_int
  | bl b => exact v_isi rfl k_bool_int
  | int i => exact v_isi rfl k_int_int
  | str x => exact v_isi rfl k_str_int
  | tup xs => exact v_isi rfl k_tuple_int
  | ref i => obtain ⟨xs, h⟩ := h; exact v_isi (ty_ref h) k_list_int
theorem v_is_bool (h : okR st d) : (gIsi "bool" d st).Wp Q E ↔ Q (.bl (isBool d)) st := by
  cases d with
  | non => exact v_isi rfl k_non_bool
  | bl b => exact v_isi rfl k_bool_bool
  | int i => exact v_isi rfl k_int_bool
  | str x => exact v_isi rfl k_str_bool
  | tup xs => exact v_isi rfl k_tuple_bool
  | ref i => obtain ⟨xs, h⟩ := h; exact v_isi (ty_ref h) k_list_bool
theorem v_is_tup (h : okR st d) : (gIsi "tuple" d st).Wp Q E ↔ Q (.bl (isTup d)) st := by
  cases d with
  | non => exact v_isi rfl k_non_tuple
  | bl b => exact v_isi rfl k_bool_tuple
  | int i => exact v_isi rfl k_int_tuple
  | str x => exact v_isi rfl k_str_tuple
  | tup xs => exact v_isi rfl k_tuple_tuple
  | ref i => obtain ⟨xs, h⟩ := h; exact v_isi (ty_ref h) k_list_tuple
end
end Mir
namespace K78
open PySem Mir
section
variable {Q : D → Sto → Prop} {E : Exn → Sto → Prop} {st : Sto} {d : D}
theorem sp_is_int (h : okR st d) : (g_is_int [d] st).Wp Q E ↔ Q (.bl (isInt d && !isBool d)) st := by
  unfold g_is_int b_is_int_
  simp only [m_fn, s_seq, s_if, s_ret, s_asg, s_expr, s_nx, s_bk, s_ct, s_par, s_raise, s_for, g_name, m_op, m_un, m_then, m_callb, m_var, m_c, m_call, m_callk, m_cons, m_nil, m_tup, m_lst, m_new, m_te, m_tand, m_tor, m_tnot, m_if, m_and, m_or, m_comp, v_add, v_sub, v_neg, v_lt, v_le, v_gt, v_ge, v_mod, v_fdiv, v_mul, v_int, v_abs, v_max, v_min, v_isN, v_notN, v_isB, v_not, v_len_t, v_eq_i, v_ne_i, v_eq_b, v_ix_t, wp_pure, wp_ite, List.map_cons, List.map_nil, List.length_cons, List.length_nil, List.replicate, List.append_nil, List.nil_append, List.cons_append, List.getElem?_cons_zero, List.getElem?_cons_succ, List.getElem?_nil, List.set_cons_zero, List.set_cons_succ, Option.some.injEq, D.bl.injEq, D.int.injEq, D.tup.injEq, exists_eq_left', exists_eq_left, exists_and_left, true_and, and_true, Nat.reduceAdd, Nat.reduceSub, Nat.zero_add, if_true, if_false, Bool.false_eq_true, reduceCtorEq, decide_eq_true_eq, Nat.reduceEqDiff, v_is_int h, v_is_bool h]
  cases isInt d <;> simp
def numB (lo hi : Int) : D → Bool
  | .int i => decide (lo ≤ i) && decide (i ≤ hi)
  | _ => false
theorem sp_is_number {lo hi : Int} (h : okR st d) : (g_is_number [d, .int lo, .int hi] st).Wp Q E ↔ Q (.bl (numB lo hi d)) st := by
  unfold g_is_number b_is_number_
  simp only [m_fn, s_seq, s_if, s_ret, s_asg, s_expr, s_nx, s_bk, s_ct, s_par, s_raise, s_for, g_name, m_op, m_un, m_then, m_callb, m_var, m_c, m_call, m_callk, m_cons, m_nil, m_tup, m_lst, m_new, m_te, m_tand, m_tor, m_tnot, m_if, m_and, m_or, m_comp, v_add, v_sub, v_neg, v_lt, v_le, v_gt, v_ge, v_mod, v_fdiv, v_mul, v_int, v_abs, v_max, v_min, v_isN, v_notN, v_isB, v_not, v_len_t, v_eq_i, v_ne_i, v_eq_b, v_ix_t, wp_pure, wp_ite, List.map_cons, List.map_nil, List.length_cons, List.length_nil, List.replicate, List.append_nil, List.nil_append, List.cons_append, List.getElem?_cons_zero, List.getElem?_cons_succ, List.getElem?_nil, List.set_cons_zero, List.set_cons_succ, Option.some.injEq, D.bl.injEq, D.int.injEq, D.tup.injEq, exists_eq_left', exists_eq_left, exists_and_left, true_and, and_true, Nat.reduceAdd, Nat.reduceSub, Nat.zero_add, if_true, if_false, Bool.false_eq_true, reduceCtorEq, decide_eq_true_eq, Nat.reduceEqDiff, sp_is_int h]
  cases d with
  | int i =>
    simp only [isInt, isBool, Bool.not_false, Bool.and_true, if_true]
    simp only [m_fn, s_seq, s_if, s_ret, s_asg, s_expr, s_nx, s_bk, s_ct, s_par, s_raise, s_for, g_name, m_op, m_un, m_then, m_callb, m_var, m_c, m_call, m_callk, m_cons, m_nil, m_tup, m_lst, m_new, m_te, m_tand, m_tor, m_tnot, m_if, m_and, m_or, m_comp, v_add, v_sub, v_neg, v_lt, v_le, v_gt, v_ge, v_mod, v_fdiv, v_mul, v_int, v_abs, v_max, v_min, v_isN, v_notN, v_isB, v_not, v_len_t, v_eq_i, v_ne_i, v_eq_b, v_ix_t, wp_pure, wp_ite, List.map_cons, List.map_nil, List.length_cons, List.length_nil, List.replicate, List.append_nil, List.nil_append, List.cons_append, List.getElem?_cons_zero, List.getElem?_cons_succ, List.getElem?_nil, List.set_cons_zero, List.set_cons_succ, Option.some.injEq, D.bl.injEq, D.int.injEq, D.tup.injEq, exists_eq_left', exists_eq_left, exists_and_left, true_and, and_true, Nat.reduceAdd, Nat.reduceSub, Nat.zero_add, if_true, if_false, Bool.false_eq_true, reduceCtorEq, decide_eq_true_eq, Nat.reduceEqDiff]
    by_cases c : lo ≤ i <;> simp [c, numB, D.isNon]
  | non => simp [isInt, numB]
  | bl b => simp [isInt, isBool, numB]
  | str x => simp [isInt, numB]
  | tup x => simp [isInt, numB]
  | ref x => simp [isInt, numB]
def tupB (n : Int) : D → Bool
  | .tup xs => decide ((xs.length : Int) = n)
  | _ => false
theorem sp_is_tuple2 {n : Int} (h : okR st d) : (g_is_tuple [d, .int n] st).Wp Q E ↔ Q (.bl (tupB n d)) st := by
  unfold g_is_tuple b_is_tuple_
  simp only [m_fn, s_seq, s_if, s_ret, s_asg, s_expr, s_nx, s_bk, s_ct, s_par, s_raise, s_for, g_name, m_op, m_un, m_then, m_callb, m_var, m_c, m_call, m_callk, m_cons, m_nil, m_tup, m_lst, m_new, m_te, m_tand, m_tor, m_tnot, m_if, m_and, m_or, m_comp, v_add, v_sub, v_neg, v_lt, v_le, v_gt, v_ge, v_mod, v_fdiv, v_mul, v_int, v_abs, v_max, v_min, v_isN, v_notN, v_isB, v_not, v_len_t, v_eq_i, v_ne_i, v_eq_b, v_ix_t, wp_pure, wp_ite, List.map_cons, List.map_nil, List.length_cons, List.length_nil, List.replicate, List.append_nil, List.nil_append, List.cons_append, List.getElem?_cons_zero, List.getElem?_cons_succ, List.getElem?_nil, List.set_cons_zero, List.set_cons_succ, Option.some.injEq, D.bl.injEq, D.int.injEq, D.tup.injEq, exists_eq_left', exists_eq_left, exists_and_left, true_and, and_true, Nat.reduceAdd, Nat.reduceSub, Nat.zero_add, if_true, if_false, Bool.false_eq_true, reduceCtorEq, decide_eq_true_eq, Nat.reduceEqDiff, v_is_tup h]
  cases d with
  | tup xs =>
    simp only [isTup, if_true]
    simp only [m_fn, s_seq, s_if, s_ret, s_asg, s_expr, s_nx, s_bk, s_ct, s_par, s_raise, s_for, g_name, m_op, m_un, m_then, m_callb, m_var, m_c, m_call, m_callk, m_cons, m_nil, m_tup, m_lst, m_new, m_te, m_tand, m_tor, m_tnot, m_if, m_and, m_or, m_comp, v_add, v_sub, v_neg, v_lt, v_le, v_gt, v_ge, v_mod, v_fdiv, v_mul, v_int, v_abs, v_max, v_min, v_isN, v_notN, v_isB, v_not, v_len_t, v_eq_i, v_ne_i, v_eq_b, v_ix_t, wp_pure, wp_ite, List.map_cons, List.map_nil, List.length_cons, List.length_nil, List.replicate, List.append_nil, List.nil_append, List.cons_append, List.getElem?_cons_zero, List.getElem?_cons_succ, List.getElem?_nil, List.set_cons_zero, List.set_cons_succ, Option.some.injEq, D.bl.injEq, D.int.injEq, D.tup.injEq, exists_eq_left', exists_eq_left, exists_and_left, true_and, and_true, Nat.reduceAdd, Nat.reduceSub, Nat.zero_add, if_true, if_false, Bool.false_eq_true, reduceCtorEq, decide_eq_true_eq, Nat.reduceEqDiff]
    simp [D.isNon, tupB]
  | _ => simp [isTup, tupB]
theorem sp_is_tuple0 (h : okR st d) : (g_is_tuple [d, .non] st).Wp Q E ↔ Q (.bl (isTup d)) st := by
  unfold g_is_tuple b_is_tuple_
  simp only [m_fn, s_seq, s_if, s_ret, s_asg, s_expr, s_nx, s_bk, s_ct, s_par, s_raise, s_for, g_name, m_op, m_un, m_then, m_callb, m_var, m_c, m_call, m_callk, m_cons, m_nil, m_tup, m_lst, m_new, m_te, m_tand, m_tor, m_tnot, m_if, m_and, m_or, m_comp, v_add, v_sub, v_neg, v_lt, v_le, v_gt, v_ge, v_mod, v_fdiv, v_mul, v_int, v_abs, v_max, v_min, v_isN, v_notN, v_isB, v_not, v_len_t, v_eq_i, v_ne_i, v_eq_b, v_ix_t, wp_pure, wp_ite, List.map_cons, List.map_nil, List.length_cons, List.length_nil, List.replicate, List.append_nil, List.nil_append, List.cons_append, List.getElem?_cons_zero, List.getElem?_cons_succ, List.getElem?_nil, List.set_cons_zero, List.set_cons_succ, Option.some.injEq, D.bl.injEq, D.int.injEq, D.tup.injEq, exists_eq_left', exists_eq_left, exists_and_left, true_and, and_true, Nat.reduceAdd, Nat.reduceSub, Nat.zero_add, if_true, if_false, Bool.false_eq_true, reduceCtorEq, decide_eq_true_eq, Nat.reduceEqDiff, v_is_tup h]
  cases d with
  | tup xs =>
    simp only [isTup, if_true]
    simp only [m_fn, s_seq, s_if, s_ret, s_asg, s_expr, s_nx, s_bk, s_ct, s_par, s_raise, s_for, g_name, m_op, m_un, m_then, m_callb, m_var, m_c, m_call, m_callk, m_cons, m_nil, m_tup, m_lst, m_new, m_te, m_tand, m_tor, m_tnot, m_if, m_and, m_or, m_comp, v_add, v_sub, v_neg, v_lt, v_le, v_gt, v_ge, v_mod, v_fdiv, v_mul, v_int, v_abs, v_max, v_min, v_isN, v_notN, v_isB, v_not, v_len_t, v_eq_i, v_ne_i, v_eq_b, v_ix_t, wp_pure, wp_ite, List.map_cons, List.map_nil, List.length_cons, List.length_nil, List.replicate, List.append_nil, List.nil_append, List.cons_append, List.getElem?_cons_zero, List.getElem?_cons_succ, List.getElem?_nil, List.set_cons_zero, List.set_cons_succ, Option.some.injEq, D.bl.injEq, D.int.injEq, D.tup.injEq, exists_eq_left', exists_eq_left, exists_and_left, true_and, and_true, Nat.reduceAdd, Nat.reduceSub, Nat.zero_add, if_true, if_false, Bool.false_eq_true, reduceCtorEq, decide_eq_true_eq, Nat.reduceEqDiff]
    simp [D.isNon]
  | _ => simp [isTup]
end
end K78
end part_P78a
section part_P78b
set_option maxHeartbeats 1000000
namespace Mir
open PySem L2
/-! ### pairs -/
abbrev PR := Int × Int
def pD (p : PR) : D := .tup [.int p.1, .int p.2]
def pP (p : PR) : PyData := .tuple [.int p.1, .int p.2]
theorem py_pD {st : Sto} {n : Nat} (p : PR) : py st (n + 1) (pD p) = some (pP p) := by
  show (([D.int p.1, D.int p.2].mapM (py st n)).map PyData.tuple) = _
  simp only [List.mapM_cons, List.mapM_nil, py_int]
  rfl
theorem py_pDs {st : Sto} {n : Nat} : ∀ ps : List PR, (ps.map pD).mapM (py st (n + 1)) = some (ps.map pP)
  | [] => rfl
  | p :: ps => by
    rw [List.map_cons, List.mapM_cons, py_pD, py_pDs ps]
    rfl
theorem eqv_pP (p q : PR) : PyData.eqv (pP p) (pP q) = decide (p = q) := by
  unfold pP
  simp only [PyData.eqv, PyData.eqvAll, Bool.and_true]
  obtain ⟨a, b⟩ := p
  obtain ⟨c, d⟩ := q
  by_cases h1 : a = c <;> by_cases h2 : b = d <;> simp [h1, h2]
theorem eqv_pPs : ∀ ps qs : List PR, PyData.eqvAll (ps.map pP) (qs.map pP) = decide (ps = qs)
  | [], [] => by simp [PyData.eqvAll]
  | [], _ :: _ => by simp [PyData.eqvAll]
  | _ :: _, [] => by simp [PyData.eqvAll]
  | p :: ps, q :: qs => by
    rw [List.map_cons, List.map_cons, PyData.eqvAll, eqv_pP, eqv_pPs ps qs]
    by_cases h : p = q <;> by_cases h2 : ps = qs <;> simp [h, h2]
theorem canLay_pPs : ∀ ps : List PR, PyData.canLayAll0 (ps.map pP) = true
  | [] => by simp [PyData.canLayAll0]
  | p :: ps => by
    rw [List.map_cons, PyData.canLayAll0, canLay_pPs ps]
    simp [pP, PyData.canLay0, PyData.canLayAll0]
theorem depth_pP (p : PR) : (pP p).depth = 1 := by simp [pP, PyData.depth, PyData.depthAll]
theorem depth_pPs : ∀ ps : List PR, PyData.depthAll (ps.map pP) ≤ 1
  | [] => by simp [PyData.depthAll]
  | p :: ps => by
    rw [List.map_cons, PyData.depthAll, depth_pP]
    have := depth_pPs ps
    omega
theorem shaped_pPs (ps : List PR) : SeqAt.shaped (.list (ps.map pP)) = true := by
  have h := depth_pPs ps
  unfold SeqAt.shaped
  rw [Bool.and_eq_true]
  refine ⟨by simp only [PyData.canLay0]; exact canLay_pPs ps, decide_eq_true ?_⟩
  simp only [PyData.depth]
  omega
theorem pD_inj {p q : PR} (h : pD p = pD q) : p = q := by
  obtain ⟨a, b⟩ := p
  obtain ⟨c, d⟩ := q
  simp only [pD, D.tup.injEq, List.cons.injEq, D.int.injEq, and_true] at h
  simp [h]
/-- the order of pairs -/
def leP (p q : PR) : Bool := decide (p.1 < q.1 ∨ (p.1 = q.1 ∧ p.2 ≤ q.2))
theorem leP_trans (a b c : PR) (h1 : leP a b = true) (h2 : leP b c = true) : leP a c = true := by
  unfold leP at *
  simp only [decide_eq_true_eq] at *
  omega
theorem leP_total (a b : PR) : (leP a b || leP b a) = true := by
  unfold leP
  simp only [Bool.or_eq_true, decide_eq_true_eq]
  omega
theorem leP_anti {a b : PR} (h1 : leP a b = true) (h2 : leP b a = true) : a = b := by
  unfold leP at *
  simp only [decide_eq_true_eq] at *
  obtain ⟨x, y⟩ := a
  obtain ⟨u, v⟩ := b
  simp only at h1 h2
  have : x = u := by omega
  have : y = v := by omega
  simp [*]
abbrev srtP (ps : List PR) : List PR := ps.mergeSort leP
theorem encD_pD {st : Sto} (p : PR) : encD st (pD p) = pP p := by
  unfold encD pyDeep
  rw [py_pD]
  rfl
theorem dataLe_pD {st : Sto} : ∀ p q : PR, PySem.W.dataLe false (encD st) (pD p) (pD q) = leP p q := fun p q => by
  have h := congrFun (congrFun (PySem.W.dataLe_ii (β := PR) (fun p => p.1) (fun p => p.2)) p) q
  have e : PySem.W.dataLe false (encD st) (pD p) (pD q) = PySem.W.dataLe false (fun b : PR => PyData.tuple [.int b.1, .int b.2]) p q := by
    unfold PySem.W.dataLe PySem.W.sortLe
    simp only [encD_pD]
    rfl
  rw [e, h]
  rfl
theorem sortB_pP (ps : List PR) : sortB (ps.map pP) = true := by
  unfold sortB
  rw [Bool.and_eq_true, Bool.and_eq_true, Bool.or_eq_true]
  refine ⟨⟨?_, .inl ?_⟩, ?_⟩
  · refine List.all_eq_true.mpr fun d hd => List.all_eq_true.mpr fun e he => ?_
    obtain ⟨p, _, rfl⟩ := List.mem_map.mp hd
    obtain ⟨q, _, rfl⟩ := List.mem_map.mp he
    simp [pP, PySem.W.alike, PySem.W.alikeAll]
  · refine List.all_eq_true.mpr fun d hd => ?_
    obtain ⟨p, _, rfl⟩ := List.mem_map.mp hd
    rfl
  · refine List.all_eq_true.mpr fun d hd => ?_
    obtain ⟨p, _, rfl⟩ := List.mem_map.mp hd
    rw [depth_pP]
    rfl
theorem v_sort_p {Q : List D → Sto → Prop} {E : Exn → Sto → Prop} {st : Sto} (ps : List PR) : (gSorted false (ps.map pD) st).Wp Q E ↔ Q ((srtP ps).map pD) st := by
  unfold gSorted
  have h1 : ((ps.map pD).all fun d => (py st pyDeep d).isSome) = true := by
    refine List.all_eq_true.mpr fun d hd => ?_
    obtain ⟨p, _, rfl⟩ := List.mem_map.mp hd
    unfold pyDeep
    rw [py_pD]
    rfl
  have h2 : (ps.map pD).map (encD st) = ps.map pP := by
    rw [List.map_map]
    exact List.map_congr_left fun p _ => encD_pD p
  rw [if_pos ⟨h1, by rw [h2]; exact sortB_pP ps⟩]
  have e : (ps.map pD).mergeSort (PySem.W.dataLe false (encD st)) = (srtP ps).map pD :=
    (List.map_mergeSort (r := leP) (s := PySem.W.dataLe false (encD st)) (f := pD) (fun a _ b _ => (dataLe_pD a b).symm)).symm
  rw [e]
  exact Iff.rfl
end Mir
end part_P78b
section part_P78c
set_option maxHeartbeats 1000000
namespace Mir
open PySem L2
theorem wp_nb {α : Type} {o : Out α} {Q Q' : α → Sto → Prop} {E E' : Exn → Sto → Prop} (h : o.Wp Q E) (k : ∀ a st, Q a st → Q' a st) (e : ∀ x st, E x st → E' x st) : o.Wp Q' E' := wp_mono h k e
theorem v_list_t {xs : List D} {Q : List D → Sto → Prop} {E : Exn → Sto → Prop} {st : Sto} : (gItems (.tup xs) st).Wp Q E ↔ Q xs st := Iff.rfl
theorem v_walk_t {xs : List D} {Q : List D × Watch → Sto → Prop} {E : Exn → Sto → Prop} {st : Sto} : (gWalk (.tup xs) st).Wp Q E ↔ Q (xs, []) st := Iff.rfl
theorem v_walkT {xs : List D} {Q : List D × Watch → Sto → Prop} {E : Exn → Sto → Prop} {st : Sto} : (gWalkT xs st).Wp Q E ↔ Q (xs, []) st := Iff.rfl
theorem v_lenT {xs : List D} {Q : D → Sto → Prop} {E : Exn → Sto → Prop} {st : Sto} : (gLenT xs st).Wp Q E ↔ Q (.int xs.length) st := Iff.rfl
theorem v_tupT {xs : List D} {Q : D → Sto → Prop} {E : Exn → Sto → Prop} {st : Sto} : (gTupT xs st).Wp Q E ↔ Q (.tup xs) st := Iff.rfl
theorem v_sortV {d : D} {Q : List D → Sto → Prop} {E : Exn → Sto → Prop} {st : Sto} : (gSortV d st).Wp Q E ↔ (gItems d st).Wp (fun xs s1 => (gSorted false xs s1).Wp Q E) E := by unfold gSortV; rw [wp_bind]
theorem stays_nil {st : Sto} : stays [] st := fun q h => nomatch h
theorem py_lst {st : Sto} {i n : Nat} {xs : List D} {es : List PyData} (h : st[i]? = some (.lst xs)) (e : xs.mapM (py st n) = some es) : py st (n + 1) (.ref i) = some (.list es) := by
  show (match listAt st i with
    | some xs => (xs.mapM (py st n)).map PyData.list
    | none => none) = _
  have : listAt st i = some xs := by unfold listAt; rw [h]
  rw [this]
  dsimp only
  rw [e]
  rfl
theorem v_eq_ps {Q : D → Sto → Prop} {E : Exn → Sto → Prop} {st : Sto} {i j : Nat} {ps qs : List PR} (hi : st[i]? = some (.lst (ps.map pD))) (hj : st[j]? = some (.lst (qs.map pD))) (f : Bool → Bool) : (gCmpD f (.ref i) (.ref j) st).Wp Q E ↔ Q (.bl (f (decide (ps = qs)))) st := by
  rw [v_cmp (py_lst hi (py_pDs ps)) (py_lst hj (py_pDs qs)) (shaped_pPs ps) (shaped_pPs qs)]
  simp only [PyData.eqv, eqv_pPs]
end Mir
namespace K78
open PySem Mir
section
variable {Q : D → Sto → Prop} {E : Exn → Sto → Prop} {st : Sto} {d : D}
def okD (st : Sto) : D → Prop
  | .tup xs => ∀ x ∈ xs, okR st x
  | d => okR st d
theorem okR_of {st : Sto} {d : D} (h : okD st d) : okR st d := by
  cases d <;> first | exact h | trivial
def neI : D → D → Bool
  | .int i, .int j => !decide (i = j)
  | _, _ => false
def wayB (many : Int) : D → Bool
  | .tup [a, b] => numB 0 (many - 1) a && (numB 0 many b && neI a b)
  | _ => false
theorem numB_int {lo hi : Int} {d : D} (h : numB lo hi d = true) : ∃ i : Int, d = .int i ∧ lo ≤ i ∧ i ≤ hi := by
  cases d with
  | int i => simp [numB] at h; exact ⟨i, rfl, h⟩
  | _ => simp [numB] at h
theorem at0 {a : D} {r : List D} : L2.atI (a :: r) 0 = some a := atI_nat (n := 0) rfl
theorem at1 {a b : D} {r : List D} : L2.atI (a :: b :: r) 1 = some b := atI_nat (n := 1) rfl
theorem sp_is_way {many : Int} (h : okD st d) : (g_is_way [d, .int many] st).Wp Q E ↔ Q (.bl (wayB many d)) st := by
  unfold g_is_way b_is_way_
  simp only [m_fn, s_seq, s_if, s_ret, s_asg, s_expr, s_nx, s_bk, s_ct, s_par, s_raise, s_for, g_name, m_op, m_un, m_then, m_callb, m_var, m_c, m_call, m_callk, m_cons, m_nil, m_tup, m_lst, m_new, m_te, m_tand, m_tor, m_tnot, m_if, m_and, m_or, m_comp, v_add, v_sub, v_neg, v_lt, v_le, v_gt, v_ge, v_mod, v_fdiv, v_mul, v_int, v_abs, v_max, v_min, v_isN, v_notN, v_isB, v_not, v_len_t, v_eq_i, v_ne_i, v_eq_b, v_ix_t, wp_pure, wp_ite, List.map_cons, List.map_nil, List.length_cons, List.length_nil, List.replicate, List.append_nil, List.nil_append, List.cons_append, List.getElem?_cons_zero, List.getElem?_cons_succ, List.getElem?_nil, List.set_cons_zero, List.set_cons_succ, Option.some.injEq, D.bl.injEq, D.int.injEq, D.tup.injEq, exists_eq_left', exists_eq_left, exists_and_left, true_and, and_true, Nat.reduceAdd, Nat.reduceSub, Nat.zero_add, if_true, if_false, Bool.false_eq_true, reduceCtorEq, decide_eq_true_eq, Nat.reduceEqDiff, sp_is_tuple2 (okR_of h)]
  cases d with
  | tup xs =>
    match xs, h with
    | [], h => simp [tupB, wayB]
    | [a], h => simp [tupB, wayB]
    | a :: b :: c :: r, h =>
      have : ¬ ((r.length : Int) + 1 + 1 + 1 = 2) := by omega
      simp [tupB, wayB, this]
    | [a, b], h =>
      have ha : okR st a := h a (by simp)
      have hb : okR st b := h b (by simp)
      simp only [tupB, List.length_cons, List.length_nil]
      simp only [m_fn, s_seq, s_if, s_ret, s_asg, s_expr, s_nx, s_bk, s_ct, s_par, s_raise, s_for, g_name, m_op, m_un, m_then, m_callb, m_var, m_c, m_call, m_callk, m_cons, m_nil, m_tup, m_lst, m_new, m_te, m_tand, m_tor, m_tnot, m_if, m_and, m_or, m_comp, v_add, v_sub, v_neg, v_lt, v_le, v_gt, v_ge, v_mod, v_fdiv, v_mul, v_int, v_abs, v_max, v_min, v_isN, v_notN, v_isB, v_not, v_len_t, v_eq_i, v_ne_i, v_eq_b, v_ix_t, wp_pure, wp_ite, List.map_cons, List.map_nil, List.length_cons, List.length_nil, List.replicate, List.append_nil, List.nil_append, List.cons_append, List.getElem?_cons_zero, List.getElem?_cons_succ, List.getElem?_nil, List.set_cons_zero, List.set_cons_succ, Option.some.injEq, D.bl.injEq, D.int.injEq, D.tup.injEq, exists_eq_left', exists_eq_left, exists_and_left, true_and, and_true, Nat.reduceAdd, Nat.reduceSub, Nat.zero_add, if_true, if_false, Bool.false_eq_true, reduceCtorEq, decide_eq_true_eq, Nat.reduceEqDiff, at0, at1, sp_is_number ha, sp_is_number hb]
      simp only [Nat.zero_add, Nat.reduceAdd, Int.cast_ofNat_Int, decide_true, Bool.not_true, Bool.false_eq_true, if_false, wayB]
      cases ca : numB 0 (many - 1) a with
      | false => simp
      | true =>
        cases cb : numB 0 many b with
        | false => simp
        | true =>
          obtain ⟨i, rfl, _⟩ := numB_int ca
          obtain ⟨j, rfl, _⟩ := numB_int cb
          simp only [Bool.not_true, Bool.false_eq_true, if_false, Bool.true_and, neI]
          simp only [m_fn, s_seq, s_if, s_ret, s_asg, s_expr, s_nx, s_bk, s_ct, s_par, s_raise, s_for, g_name, m_op, m_un, m_then, m_callb, m_var, m_c, m_call, m_callk, m_cons, m_nil, m_tup, m_lst, m_new, m_te, m_tand, m_tor, m_tnot, m_if, m_and, m_or, m_comp, v_add, v_sub, v_neg, v_lt, v_le, v_gt, v_ge, v_mod, v_fdiv, v_mul, v_int, v_abs, v_max, v_min, v_isN, v_notN, v_isB, v_not, v_len_t, v_eq_i, v_ne_i, v_eq_b, v_ix_t, wp_pure, wp_ite, List.map_cons, List.map_nil, List.length_cons, List.length_nil, List.replicate, List.append_nil, List.nil_append, List.cons_append, List.getElem?_cons_zero, List.getElem?_cons_succ, List.getElem?_nil, List.set_cons_zero, List.set_cons_succ, Option.some.injEq, D.bl.injEq, D.int.injEq, D.tup.injEq, exists_eq_left', exists_eq_left, exists_and_left, true_and, and_true, Nat.reduceAdd, Nat.reduceSub, Nat.zero_add, if_true, if_false, Bool.false_eq_true, reduceCtorEq, decide_eq_true_eq, Nat.reduceEqDiff]
  | _ => simp [tupB, wayB]
/-- the ways as the law makes them -/
theorem wayB_pD {many : Int} {d : D} (h : wayB many d = true) : ∃ p : PR, d = pD p ∧ (0 ≤ p.1 ∧ p.1 < many) ∧ (0 ≤ p.2 ∧ p.2 ≤ many) ∧ p.1 ≠ p.2 := by
  unfold wayB at h
  split at h
  · rename_i a b
    rw [Bool.and_eq_true, Bool.and_eq_true] at h
    obtain ⟨i, rfl, h1, h2⟩ := numB_int h.1
    obtain ⟨j, rfl, h3, h4⟩ := numB_int h.2.1
    have h5 := h.2.2
    simp only [neI, Bool.not_eq_true', decide_eq_false_iff_not] at h5
    exact ⟨(i, j), rfl, ⟨h1, by omega⟩, ⟨h3, h4⟩, h5⟩
  · cases h
theorem pDs_of {many : Int} : ∀ xs : List D, xs.all (wayB many) = true → ∃ ps : List PR, xs = ps.map pD
  | [], _ => ⟨[], rfl⟩
  | d :: xs, h => by
    rw [List.all_cons, Bool.and_eq_true] at h
    obtain ⟨p, rfl, _⟩ := wayB_pD h.1
    obtain ⟨ps, rfl⟩ := pDs_of xs h.2
    exact ⟨p :: ps, rfl⟩
/-- what are_ways tells -/
def AreB (many : Int) (d : D) (r : Bool) : Prop :=
  (r = false ∧ (isTup d = false ∨ ∃ xs, d = .tup xs ∧ (14 < xs.length ∨ xs.all (wayB many) = false ∨ ∃ ps, xs = ps.map pD ∧ ps ≠ srtP ps))) ∨ (r = true ∧ ∃ ps, d = .tup (ps.map pD) ∧ ps.length ≤ 14 ∧ (ps.map pD).all (wayB many) = true ∧ ps = srtP ps)
theorem sp_are_ways {many : Int} (h : okR st d) (h2 : ∀ xs, d = .tup xs → ∀ x ∈ xs, okD st x) (k : ∀ r l, AreB many d r → Q (.bl r) (st ++ l)) : (g_are_ways [d, .int many] st).Wp Q E := by
  unfold g_are_ways b_are_ways_
  simp only [m_fn, s_seq, s_if, s_ret, s_asg, s_expr, s_nx, s_bk, s_ct, s_par, s_raise, s_for, g_name, m_op, m_un, m_then, m_callb, m_var, m_c, m_call, m_callk, m_cons, m_nil, m_tup, m_lst, m_new, m_te, m_tand, m_tor, m_tnot, m_if, m_and, m_or, m_comp, v_add, v_sub, v_neg, v_lt, v_le, v_gt, v_ge, v_mod, v_fdiv, v_mul, v_int, v_abs, v_max, v_min, v_isN, v_notN, v_isB, v_not, v_len_t, v_eq_i, v_ne_i, v_eq_b, v_ix_t, wp_pure, wp_ite, List.map_cons, List.map_nil, List.length_cons, List.length_nil, List.replicate, List.append_nil, List.nil_append, List.cons_append, List.getElem?_cons_zero, List.getElem?_cons_succ, List.getElem?_nil, List.set_cons_zero, List.set_cons_succ, Option.some.injEq, D.bl.injEq, D.int.injEq, D.tup.injEq, exists_eq_left', exists_eq_left, exists_and_left, true_and, and_true, Nat.reduceAdd, Nat.reduceSub, Nat.zero_add, if_true, if_false, Bool.false_eq_true, reduceCtorEq, decide_eq_true_eq, Nat.reduceEqDiff, sp_is_tuple0 h]
  cases ht : isTup d with
  | false =>
    simp only [Bool.not_false, if_true]
    have := k false [] (.inl ⟨rfl, .inl ht⟩)
    rw [List.append_nil] at this
    exact this
  | true =>
    cases d with
    | tup xs =>
      simp only [m_fn, s_seq, s_if, s_ret, s_asg, s_expr, s_nx, s_bk, s_ct, s_par, s_raise, s_for, g_name, m_op, m_un, m_then, m_callb, m_var, m_c, m_call, m_callk, m_cons, m_nil, m_tup, m_lst, m_new, m_te, m_tand, m_tor, m_tnot, m_if, m_and, m_or, m_comp, v_add, v_sub, v_neg, v_lt, v_le, v_gt, v_ge, v_mod, v_fdiv, v_mul, v_int, v_abs, v_max, v_min, v_isN, v_notN, v_isB, v_not, v_len_t, v_eq_i, v_ne_i, v_eq_b, v_ix_t, wp_pure, wp_ite, List.map_cons, List.map_nil, List.length_cons, List.length_nil, List.replicate, List.append_nil, List.nil_append, List.cons_append, List.getElem?_cons_zero, List.getElem?_cons_succ, List.getElem?_nil, List.set_cons_zero, List.set_cons_succ, Option.some.injEq, D.bl.injEq, D.int.injEq, D.tup.injEq, exists_eq_left', exists_eq_left, exists_and_left, true_and, and_true, Nat.reduceAdd, Nat.reduceSub, Nat.zero_add, if_true, if_false, Bool.false_eq_true, reduceCtorEq, decide_eq_true_eq, Nat.reduceEqDiff, v_walk_t]
      simp only [Bool.not_true, Bool.false_eq_true, if_false]
      by_cases c14 : (14 : Int) < xs.length
      · rw [if_pos c14]
        have := k false [] (.inl ⟨rfl, .inr ⟨xs, rfl, .inl (by omega)⟩⟩)
        rw [List.append_nil] at this
        exact this
      · rw [if_neg c14]
        have hx := h2 xs rfl
        have l14 : xs.length ≤ 14 := by omega
        refine comp_pure (t := fun x => !wayB many x) (v := fun _ => .int 1) xs stays_nil (fun x hx' => ?_) [] (by show 0 + xs.length ≤ sizeLine; unfold sizeLine; omega) ?_
        · simp only [wipeD]
          simp only [m_fn, s_seq, s_if, s_ret, s_asg, s_expr, s_nx, s_bk, s_ct, s_par, s_raise, s_for, g_name, m_op, m_un, m_then, m_callb, m_var, m_c, m_call, m_callk, m_cons, m_nil, m_tup, m_lst, m_new, m_te, m_tand, m_tor, m_tnot, m_if, m_and, m_or, m_comp, v_add, v_sub, v_neg, v_lt, v_le, v_gt, v_ge, v_mod, v_fdiv, v_mul, v_int, v_abs, v_max, v_min, v_isN, v_notN, v_isB, v_not, v_len_t, v_eq_i, v_ne_i, v_eq_b, v_ix_t, wp_pure, wp_ite, List.map_cons, List.map_nil, List.length_cons, List.length_nil, List.replicate, List.append_nil, List.nil_append, List.cons_append, List.getElem?_cons_zero, List.getElem?_cons_succ, List.getElem?_nil, List.set_cons_zero, List.set_cons_succ, Option.some.injEq, D.bl.injEq, D.int.injEq, D.tup.injEq, exists_eq_left', exists_eq_left, exists_and_left, true_and, and_true, Nat.reduceAdd, Nat.reduceSub, Nat.zero_add, if_true, if_false, Bool.false_eq_true, reduceCtorEq, decide_eq_true_eq, Nat.reduceEqDiff, sp_is_way (hx x hx')]
          exact fun _ => trivial
        · simp only [m_fn, s_seq, s_if, s_ret, s_asg, s_expr, s_nx, s_bk, s_ct, s_par, s_raise, s_for, g_name, m_op, m_un, m_then, m_callb, m_var, m_c, m_call, m_callk, m_cons, m_nil, m_tup, m_lst, m_new, m_te, m_tand, m_tor, m_tnot, m_if, m_and, m_or, m_comp, v_add, v_sub, v_neg, v_lt, v_le, v_gt, v_ge, v_mod, v_fdiv, v_mul, v_int, v_abs, v_max, v_min, v_isN, v_notN, v_isB, v_not, v_len_t, v_eq_i, v_ne_i, v_eq_b, v_ix_t, wp_pure, wp_ite, List.map_cons, List.map_nil, List.length_cons, List.length_nil, List.replicate, List.append_nil, List.nil_append, List.cons_append, List.getElem?_cons_zero, List.getElem?_cons_succ, List.getElem?_nil, List.set_cons_zero, List.set_cons_succ, Option.some.injEq, D.bl.injEq, D.int.injEq, D.tup.injEq, exists_eq_left', exists_eq_left, exists_and_left, true_and, and_true, Nat.reduceAdd, Nat.reduceSub, Nat.zero_add, if_true, if_false, Bool.false_eq_true, reduceCtorEq, decide_eq_true_eq, Nat.reduceEqDiff, v_lenT, v_sortV, v_list_t]
          rw [List.length_map]
          cases ca : xs.all (wayB many) with
          | false =>
            have : 0 < (xs.filter fun x => !wayB many x).length := by
              obtain ⟨x, hx1, hx2⟩ := List.all_eq_false.mp ca
              exact List.length_pos_of_mem (List.mem_filter.mpr ⟨hx1, by simpa using hx2⟩)
            rw [if_pos (by omega)]
            have := k false [] (.inl ⟨rfl, .inr ⟨xs, rfl, .inr (.inl ca)⟩⟩)
            rw [List.append_nil] at this
            exact this
          | true =>
            have e0 : (xs.filter fun x => !wayB many x) = [] := List.filter_eq_nil_iff.mpr fun x hx1 => by simp [List.all_eq_true.mp ca x hx1]
            rw [e0]
            rw [if_neg (by simp)]
            obtain ⟨ps, rfl⟩ := pDs_of xs ca
            rw [v_sort_p]
            unfold gEq
            rw [v_eq_ps (ps := ps) (qs := srtP ps) (by simp) (by simp)]
            rw [List.append_assoc]
            refine k _ _ ?_
            by_cases cs : ps = srtP ps
            · exact .inr ⟨by simpa using cs, ps, rfl, by simpa using l14, ca, cs⟩
            · exact .inl ⟨by simpa using cs, .inr ⟨_, rfl, .inr (.inr ⟨ps, rfl, cs⟩)⟩⟩
    | _ => cases ht
end
end K78
end part_P78c
section part_P78d
set_option maxHeartbeats 1000000
namespace Mir
open PySem L2
theorem rng_split {n : Nat} {a b : List D} {d : D} (h : rngD 0 n = a ++ d :: b) : d = .int (a.length : Int) ∧ a.length < n := by
  have h1 : (rngD 0 n)[a.length]? = some d := by rw [h]; simp
  unfold rngD at h1
  rw [List.getElem?_map] at h1
  cases e : (List.range n)[a.length]? with
  | none => rw [e] at h1; cases h1
  | some k =>
    rw [e] at h1
    have hk := List.getElem?_eq_some_iff.mp e
    obtain ⟨hl, hk⟩ := hk
    rw [List.getElem_range] at hk
    rw [List.length_range] at hl
    subst hk
    have h2 := Option.some.inj h1
    exact ⟨by rw [← h2]; simp, hl⟩
theorem v_range1 {j : Int} {Q : List D × Watch → Sto → Prop} {E : Exn → Sto → Prop} {st : Sto} (h : -(2 ^ 62) ≤ j ∧ j < 2 ^ 62) : (bRange1 [.int j] st).Wp Q E ↔ Q (rngD 0 j.toNat, []) st := by
  show ((if -(2 ^ 62) ≤ j ∧ j < 2 ^ 62 then _ else _ : M (List D × Watch)) st).Wp Q E ↔ _
  rw [if_pos h]
  exact Iff.rfl
end Mir
namespace K78
open PySem Mir
section
variable {Q : D → Sto → Prop} {QL : List D → Sto → Prop} {E : Exn → Sto → Prop} {st : Sto} {d : D}
def netD (many : Int) (ps : List PR) : D := .tup [.int many, .tup (ps.map pD)]
def waysAt (ps : List PR) (k : Int) : List Int := (ps.filter fun p => decide (p.1 = k)).map (·.2)
def fst? : D → Int
  | .tup (.int i :: _) => i
  | _ => 0
def snd? : D → D
  | .tup [_, b] => b
  | _ => .non
theorem way_list {ps : List PR} {k : Int} : (((ps.map pD).filter fun d => decide (fst? d = k)).map snd?) = (waysAt ps k).map D.int := by
  unfold waysAt
  induction ps with
  | nil => rfl
  | cons p ps ih =>
    rw [List.map_cons, List.filter_cons, List.filter_cons]
    have e : fst? (pD p) = p.1 := rfl
    rw [e]
    by_cases h : p.1 = k
    · simp only [h, decide_true, if_true, List.map_cons, ih]
      rfl
    · simp only [h, decide_false, Bool.false_eq_true, if_false, ih]
theorem comp_ways {many k : Int} {ps : List PR} (hl : ps.length ≤ 1000) {w : Watch} (hw : stays w st) (h : QL ((waysAt ps k).map D.int) st) :
    (compL [some (netD many ps), some (.int k), none] (gtName 2) (tE (fOp gEq (fOp gIdx (fVar 2) (fC (.int 0))) (fVar 1))) (fOp gIdx (fVar 2) (fC (.int 1))) w (ps.map pD) [] st).Wp QL E := by
  refine comp_pure (t := fun d => decide (fst? d = k)) (v := snd?) _ hw (fun d hd => ?_) [] (by rw [List.length_map]; show 0 + ps.length ≤ sizeLine; unfold sizeLine; omega) ?_
  · obtain ⟨p, _, rfl⟩ := List.mem_map.mp hd
    unfold pD
    simp only [m_fn, s_seq, s_if, s_ret, s_asg, s_expr, s_nx, s_bk, s_ct, s_par, s_raise, s_for, g_name, m_op, m_un, m_then, m_callb, m_var, m_c, m_call, m_callk, m_cons, m_nil, m_tup, m_lst, m_new, m_te, m_tand, m_tor, m_tnot, m_if, m_and, m_or, m_comp, v_add, v_sub, v_neg, v_lt, v_le, v_gt, v_ge, v_mod, v_fdiv, v_mul, v_int, v_abs, v_max, v_min, v_isN, v_notN, v_isB, v_not, v_len_t, v_eq_i, v_ne_i, v_eq_b, v_ix_t, wp_pure, wp_ite, List.map_cons, List.map_nil, List.length_cons, List.length_nil, List.replicate, List.append_nil, List.nil_append, List.cons_append, List.getElem?_cons_zero, List.getElem?_cons_succ, List.getElem?_nil, List.set_cons_zero, List.set_cons_succ, Option.some.injEq, D.bl.injEq, D.int.injEq, D.tup.injEq, exists_eq_left', exists_eq_left, exists_and_left, true_and, and_true, Nat.reduceAdd, Nat.reduceSub, Nat.zero_add, if_true, if_false, Bool.false_eq_true, reduceCtorEq, decide_eq_true_eq, Nat.reduceEqDiff, at0, at1]
    exact ⟨rfl, fun _ => rfl⟩
  · rw [List.nil_append, way_list]
    exact h
theorem sp_ways_at {many k : Int} {ps : List PR} (hl : ps.length ≤ 1000) (h : Q (.tup ((waysAt ps k).map D.int)) st) : (g_ways_at [netD many ps, .int k] st).Wp Q E := by
  unfold g_ways_at b_ways_at_
  simp only [m_fn, s_seq, s_if, s_ret, s_asg, s_expr, s_nx, s_bk, s_ct, s_par, s_raise, s_for, g_name, m_op, m_un, m_then, m_callb, m_var, m_c, m_call, m_callk, m_cons, m_nil, m_tup, m_lst, m_new, m_te, m_tand, m_tor, m_tnot, m_if, m_and, m_or, m_comp, v_add, v_sub, v_neg, v_lt, v_le, v_gt, v_ge, v_mod, v_fdiv, v_mul, v_int, v_abs, v_max, v_min, v_isN, v_notN, v_isB, v_not, v_len_t, v_eq_i, v_ne_i, v_eq_b, v_ix_t, wp_pure, wp_ite, List.map_cons, List.map_nil, List.length_cons, List.length_nil, List.replicate, List.append_nil, List.nil_append, List.cons_append, List.getElem?_cons_zero, List.getElem?_cons_succ, List.getElem?_nil, List.set_cons_zero, List.set_cons_succ, Option.some.injEq, D.bl.injEq, D.int.injEq, D.tup.injEq, exists_eq_left', exists_eq_left, exists_and_left, true_and, and_true, Nat.reduceAdd, Nat.reduceSub, Nat.zero_add, if_true, if_false, Bool.false_eq_true, reduceCtorEq, decide_eq_true_eq, Nat.reduceEqDiff]
  unfold netD
  simp only [m_fn, s_seq, s_if, s_ret, s_asg, s_expr, s_nx, s_bk, s_ct, s_par, s_raise, s_for, g_name, m_op, m_un, m_then, m_callb, m_var, m_c, m_call, m_callk, m_cons, m_nil, m_tup, m_lst, m_new, m_te, m_tand, m_tor, m_tnot, m_if, m_and, m_or, m_comp, v_add, v_sub, v_neg, v_lt, v_le, v_gt, v_ge, v_mod, v_fdiv, v_mul, v_int, v_abs, v_max, v_min, v_isN, v_notN, v_isB, v_not, v_len_t, v_eq_i, v_ne_i, v_eq_b, v_ix_t, wp_pure, wp_ite, List.map_cons, List.map_nil, List.length_cons, List.length_nil, List.replicate, List.append_nil, List.nil_append, List.cons_append, List.getElem?_cons_zero, List.getElem?_cons_succ, List.getElem?_nil, List.set_cons_zero, List.set_cons_succ, Option.some.injEq, D.bl.injEq, D.int.injEq, D.tup.injEq, exists_eq_left', exists_eq_left, exists_and_left, true_and, and_true, Nat.reduceAdd, Nat.reduceSub, Nat.zero_add, if_true, if_false, Bool.false_eq_true, reduceCtorEq, decide_eq_true_eq, Nat.reduceEqDiff, at1, v_walk_t]
  refine comp_ways (many := many) hl stays_nil ?_
  exact h
theorem sz_ways_at {many k : Int} {ps : List PR} (hl : ps.length ≤ 1000) (h : QL ((waysAt ps k).map D.int) st) : (z_ways_at [netD many ps, .int k] st).Wp QL E := by
  unfold z_ways_at zb_ways_at fnZ
  simp only [m_fn, s_seq, s_if, s_ret, s_asg, s_expr, s_nx, s_bk, s_ct, s_par, s_raise, s_for, g_name, m_op, m_un, m_then, m_callb, m_var, m_c, m_call, m_callk, m_cons, m_nil, m_tup, m_lst, m_new, m_te, m_tand, m_tor, m_tnot, m_if, m_and, m_or, m_comp, v_add, v_sub, v_neg, v_lt, v_le, v_gt, v_ge, v_mod, v_fdiv, v_mul, v_int, v_abs, v_max, v_min, v_isN, v_notN, v_isB, v_not, v_len_t, v_eq_i, v_ne_i, v_eq_b, v_ix_t, wp_pure, wp_ite, List.map_cons, List.map_nil, List.length_cons, List.length_nil, List.replicate, List.append_nil, List.nil_append, List.cons_append, List.getElem?_cons_zero, List.getElem?_cons_succ, List.getElem?_nil, List.set_cons_zero, List.set_cons_succ, Option.some.injEq, D.bl.injEq, D.int.injEq, D.tup.injEq, exists_eq_left', exists_eq_left, exists_and_left, true_and, and_true, Nat.reduceAdd, Nat.reduceSub, Nat.zero_add, if_true, if_false, Bool.false_eq_true, reduceCtorEq, decide_eq_true_eq, Nat.reduceEqDiff]
  unfold netD
  simp only [m_fn, s_seq, s_if, s_ret, s_asg, s_expr, s_nx, s_bk, s_ct, s_par, s_raise, s_for, g_name, m_op, m_un, m_then, m_callb, m_var, m_c, m_call, m_callk, m_cons, m_nil, m_tup, m_lst, m_new, m_te, m_tand, m_tor, m_tnot, m_if, m_and, m_or, m_comp, v_add, v_sub, v_neg, v_lt, v_le, v_gt, v_ge, v_mod, v_fdiv, v_mul, v_int, v_abs, v_max, v_min, v_isN, v_notN, v_isB, v_not, v_len_t, v_eq_i, v_ne_i, v_eq_b, v_ix_t, wp_pure, wp_ite, List.map_cons, List.map_nil, List.length_cons, List.length_nil, List.replicate, List.append_nil, List.nil_append, List.cons_append, List.getElem?_cons_zero, List.getElem?_cons_succ, List.getElem?_nil, List.set_cons_zero, List.set_cons_succ, Option.some.injEq, D.bl.injEq, D.int.injEq, D.tup.injEq, exists_eq_left', exists_eq_left, exists_and_left, true_and, and_true, Nat.reduceAdd, Nat.reduceSub, Nat.zero_add, if_true, if_false, Bool.false_eq_true, reduceCtorEq, decide_eq_true_eq, Nat.reduceEqDiff, at1, v_walk_t]
  exact comp_ways (many := many) hl stays_nil h
theorem sp_ways {many k : Int} {ps : List PR} (hl : ps.length ≤ 1000) (h : Q (.ref st.length) (st ++ [.lst ((waysAt ps k).map D.int)])) : (g__law_ways [netD many ps, .int k] st).Wp Q E := by
  unfold g__law_ways b__law_ways_
  simp only [m_fn, s_seq, s_if, s_ret, s_asg, s_expr, s_nx, s_bk, s_ct, s_par, s_raise, s_for, g_name, m_op, m_un, m_then, m_callb, m_var, m_c, m_call, m_callk, m_cons, m_nil, m_tup, m_lst, m_new, m_te, m_tand, m_tor, m_tnot, m_if, m_and, m_or, m_comp, v_add, v_sub, v_neg, v_lt, v_le, v_gt, v_ge, v_mod, v_fdiv, v_mul, v_int, v_abs, v_max, v_min, v_isN, v_notN, v_isB, v_not, v_len_t, v_eq_i, v_ne_i, v_eq_b, v_ix_t, wp_pure, wp_ite, List.map_cons, List.map_nil, List.length_cons, List.length_nil, List.replicate, List.append_nil, List.nil_append, List.cons_append, List.getElem?_cons_zero, List.getElem?_cons_succ, List.getElem?_nil, List.set_cons_zero, List.set_cons_succ, Option.some.injEq, D.bl.injEq, D.int.injEq, D.tup.injEq, exists_eq_left', exists_eq_left, exists_and_left, true_and, and_true, Nat.reduceAdd, Nat.reduceSub, Nat.zero_add, if_true, if_false, Bool.false_eq_true, reduceCtorEq, decide_eq_true_eq, Nat.reduceEqDiff]
  unfold netD
  simp only [m_fn, s_seq, s_if, s_ret, s_asg, s_expr, s_nx, s_bk, s_ct, s_par, s_raise, s_for, g_name, m_op, m_un, m_then, m_callb, m_var, m_c, m_call, m_callk, m_cons, m_nil, m_tup, m_lst, m_new, m_te, m_tand, m_tor, m_tnot, m_if, m_and, m_or, m_comp, v_add, v_sub, v_neg, v_lt, v_le, v_gt, v_ge, v_mod, v_fdiv, v_mul, v_int, v_abs, v_max, v_min, v_isN, v_notN, v_isB, v_not, v_len_t, v_eq_i, v_ne_i, v_eq_b, v_ix_t, wp_pure, wp_ite, List.map_cons, List.map_nil, List.length_cons, List.length_nil, List.replicate, List.append_nil, List.nil_append, List.cons_append, List.getElem?_cons_zero, List.getElem?_cons_succ, List.getElem?_nil, List.set_cons_zero, List.set_cons_succ, Option.some.injEq, D.bl.injEq, D.int.injEq, D.tup.injEq, exists_eq_left', exists_eq_left, exists_and_left, true_and, and_true, Nat.reduceAdd, Nat.reduceSub, Nat.zero_add, if_true, if_false, Bool.false_eq_true, reduceCtorEq, decide_eq_true_eq, Nat.reduceEqDiff, at1, v_walk_t]
  exact comp_ways (many := many) hl stays_nil h
/-- what check_net tells: good, or the place of the fault -/
def ChkR (d : D) (r : Option Int) : Prop :=
  (r = some (-1) ∧ tupB 2 d = false) ∨ ∃ a b, d = .tup [a, b] ∧ ((r = some 0 ∧ numB 1 7 a = false) ∨ ∃ many : Int, a = .int many ∧ (1 ≤ many ∧ many ≤ 7) ∧ ((r = some 1 ∧ AreB many b false) ∨
    ∃ ps : List PR, b = .tup (ps.map pD) ∧ ps.length ≤ 14 ∧ (ps.map pD).all (wayB many) = true ∧ ps = srtP ps ∧
      ((∃ p : Int, (0 ≤ p ∧ p < many) ∧ waysAt ps p = [] ∧ (∀ q : Int, 0 ≤ q → q < p → waysAt ps q ≠ []) ∧ r = some (2 + p)) ∨ (r = none ∧ ∀ p : Int, 0 ≤ p → p < many → waysAt ps p ≠ []))))
theorem sp_check (h : okD st d) (h2 : ∀ a xs, d = .tup [a, .tup xs] → ∀ x ∈ xs, okD st x) (kq : ∀ l, ChkR d none → Q d (st ++ l)) (ke : ∀ a l, ChkR d (some a) → E ⟨"BadNet", [("at", .int a)]⟩ (st ++ l)) : (g_check_net [d] st).Wp Q E := by
  unfold g_check_net b_check_net_
  simp only [m_fn, s_seq, s_if, s_ret, s_asg, s_expr, s_nx, s_bk, s_ct, s_par, s_raise, s_for, g_name, m_op, m_un, m_then, m_callb, m_var, m_c, m_call, m_callk, m_cons, m_nil, m_tup, m_lst, m_new, m_te, m_tand, m_tor, m_tnot, m_if, m_and, m_or, m_comp, v_add, v_sub, v_neg, v_lt, v_le, v_gt, v_ge, v_mod, v_fdiv, v_mul, v_int, v_abs, v_max, v_min, v_isN, v_notN, v_isB, v_not, v_len_t, v_eq_i, v_ne_i, v_eq_b, v_ix_t, wp_pure, wp_ite, List.map_cons, List.map_nil, List.length_cons, List.length_nil, List.replicate, List.append_nil, List.nil_append, List.cons_append, List.getElem?_cons_zero, List.getElem?_cons_succ, List.getElem?_nil, List.set_cons_zero, List.set_cons_succ, Option.some.injEq, D.bl.injEq, D.int.injEq, D.tup.injEq, exists_eq_left', exists_eq_left, exists_and_left, true_and, and_true, Nat.reduceAdd, Nat.reduceSub, Nat.zero_add, if_true, if_false, Bool.false_eq_true, reduceCtorEq, decide_eq_true_eq, Nat.reduceEqDiff, sp_is_tuple2 (okR_of h)]
  cases ht : tupB 2 d with
  | false =>
    have z := ke (-1) [] (.inl ⟨rfl, ht⟩)
    rw [List.append_nil] at z
    simpa using z
  | true =>
    obtain ⟨a, b, rfl⟩ : ∃ a b, d = .tup [a, b] := by
      cases d with
      | tup xs =>
        simp only [tupB, decide_eq_true_eq] at ht
        match xs, ht with
        | [a, b], _ => exact ⟨a, b, rfl⟩
        | [], h => simp at h
        | [_], h => simp at h
        | _ :: _ :: _ :: r, h => simp at h; omega
      | _ => cases ht
    have ha : okR st a := h a (by simp)
    have hb : okR st b := h b (by simp)
    simp only [Bool.not_true, Bool.false_eq_true, if_false]
    simp only [m_fn, s_seq, s_if, s_ret, s_asg, s_expr, s_nx, s_bk, s_ct, s_par, s_raise, s_for, g_name, m_op, m_un, m_then, m_callb, m_var, m_c, m_call, m_callk, m_cons, m_nil, m_tup, m_lst, m_new, m_te, m_tand, m_tor, m_tnot, m_if, m_and, m_or, m_comp, v_add, v_sub, v_neg, v_lt, v_le, v_gt, v_ge, v_mod, v_fdiv, v_mul, v_int, v_abs, v_max, v_min, v_isN, v_notN, v_isB, v_not, v_len_t, v_eq_i, v_ne_i, v_eq_b, v_ix_t, wp_pure, wp_ite, List.map_cons, List.map_nil, List.length_cons, List.length_nil, List.replicate, List.append_nil, List.nil_append, List.cons_append, List.getElem?_cons_zero, List.getElem?_cons_succ, List.getElem?_nil, List.set_cons_zero, List.set_cons_succ, Option.some.injEq, D.bl.injEq, D.int.injEq, D.tup.injEq, exists_eq_left', exists_eq_left, exists_and_left, true_and, and_true, Nat.reduceAdd, Nat.reduceSub, Nat.zero_add, if_true, if_false, Bool.false_eq_true, reduceCtorEq, decide_eq_true_eq, Nat.reduceEqDiff, g_tup, g_cons, g_nil, sp_is_number ha]
    cases ca : numB 1 7 a with
    | false =>
      have z := ke 0 [] (.inr ⟨a, b, rfl, .inl ⟨rfl, ca⟩⟩)
      rw [List.append_nil] at z
      simpa using z
    | true =>
      obtain ⟨many, rfl, m1, m2⟩ := numB_int ca
      simp only [Bool.not_true, Bool.false_eq_true, if_false]
      refine sp_are_ways hb (fun xs e => h2 _ xs (by rw [e])) fun r l hr => ?_
      rcases hr with ⟨rfl, hr⟩ | ⟨rfl, ps, rfl, l14, hw, hs⟩
      · have z := ke 1 l (.inr ⟨_, b, rfl, .inr ⟨many, rfl, ⟨m1, m2⟩, .inl ⟨rfl, .inl ⟨rfl, hr⟩⟩⟩⟩)
        simpa using z
      · simp only [m_fn, s_seq, s_if, s_ret, s_asg, s_expr, s_nx, s_bk, s_ct, s_par, s_raise, s_for, g_name, m_op, m_un, m_then, m_callb, m_var, m_c, m_call, m_callk, m_cons, m_nil, m_tup, m_lst, m_new, m_te, m_tand, m_tor, m_tnot, m_if, m_and, m_or, m_comp, v_add, v_sub, v_neg, v_lt, v_le, v_gt, v_ge, v_mod, v_fdiv, v_mul, v_int, v_abs, v_max, v_min, v_isN, v_notN, v_isB, v_not, v_len_t, v_eq_i, v_ne_i, v_eq_b, v_ix_t, wp_pure, wp_ite, List.map_cons, List.map_nil, List.length_cons, List.length_nil, List.replicate, List.append_nil, List.nil_append, List.cons_append, List.getElem?_cons_zero, List.getElem?_cons_succ, List.getElem?_nil, List.set_cons_zero, List.set_cons_succ, Option.some.injEq, D.bl.injEq, D.int.injEq, D.tup.injEq, exists_eq_left', exists_eq_left, exists_and_left, true_and, and_true, Nat.reduceAdd, Nat.reduceSub, Nat.zero_add, if_true, if_false, Bool.false_eq_true, reduceCtorEq, decide_eq_true_eq, Nat.reduceEqDiff, Bool.not_true, v_range1 (j := many) (show -(2 ^ 62) ≤ many ∧ many < 2 ^ 62 by omega)]
        have base : ∀ r, ((∃ p : Int, (0 ≤ p ∧ p < many) ∧ waysAt ps p = [] ∧ (∀ q : Int, 0 ≤ q → q < p → waysAt ps q ≠ []) ∧ r = some (2 + p)) ∨ (r = none ∧ ∀ p : Int, 0 ≤ p → p < many → waysAt ps p ≠ [])) → ChkR (.tup [.int many, .tup (ps.map pD)]) r :=
          fun r z => .inr ⟨_, _, rfl, .inr ⟨many, rfl, ⟨m1, m2⟩, .inr ⟨ps, rfl, l14, hw, hs, z⟩⟩⟩
        refine for_inv (J := fun a b en s => s = st ++ l ∧ (∃ x, en = [some (.tup [.int many, .tup (ps.map pD)]), some (.int many), some (.tup (ps.map pD)), x]) ∧ ∀ q : Int, 0 ≤ q → q < a.length → waysAt ps q ≠ []) ⟨rfl, ⟨_, rfl⟩, fun q h1 h2 => by simp at h2; omega⟩
          (fun _ _ _ _ _ => stays_nil) (fun a dd b en s e ⟨es, ⟨x, ee⟩, hq⟩ => ?_) (fun en s ⟨es, ⟨x, ee⟩, hq⟩ => ?_)
        · subst es ee
          obtain ⟨rfl, hlt⟩ := rng_split e
          simp only [m_fn, s_seq, s_if, s_ret, s_asg, s_expr, s_nx, s_bk, s_ct, s_par, s_raise, s_for, g_name, m_op, m_un, m_then, m_callb, m_var, m_c, m_call, m_callk, m_cons, m_nil, m_tup, m_lst, m_new, m_te, m_tand, m_tor, m_tnot, m_if, m_and, m_or, m_comp, v_add, v_sub, v_neg, v_lt, v_le, v_gt, v_ge, v_mod, v_fdiv, v_mul, v_int, v_abs, v_max, v_min, v_isN, v_notN, v_isB, v_not, v_len_t, v_eq_i, v_ne_i, v_eq_b, v_ix_t, wp_pure, wp_ite, List.map_cons, List.map_nil, List.length_cons, List.length_nil, List.replicate, List.append_nil, List.nil_append, List.cons_append, List.getElem?_cons_zero, List.getElem?_cons_succ, List.getElem?_nil, List.set_cons_zero, List.set_cons_succ, Option.some.injEq, D.bl.injEq, D.int.injEq, D.tup.injEq, exists_eq_left', exists_eq_left, exists_and_left, true_and, and_true, Nat.reduceAdd, Nat.reduceSub, Nat.zero_add, if_true, if_false, Bool.false_eq_true, reduceCtorEq, decide_eq_true_eq, Nat.reduceEqDiff]
          refine sp_ways_at (many := many) (by omega) ?_
          simp only [m_fn, s_seq, s_if, s_ret, s_asg, s_expr, s_nx, s_bk, s_ct, s_par, s_raise, s_for, g_name, m_op, m_un, m_then, m_callb, m_var, m_c, m_call, m_callk, m_cons, m_nil, m_tup, m_lst, m_new, m_te, m_tand, m_tor, m_tnot, m_if, m_and, m_or, m_comp, v_add, v_sub, v_neg, v_lt, v_le, v_gt, v_ge, v_mod, v_fdiv, v_mul, v_int, v_abs, v_max, v_min, v_isN, v_notN, v_isB, v_not, v_len_t, v_eq_i, v_ne_i, v_eq_b, v_ix_t, wp_pure, wp_ite, List.map_cons, List.map_nil, List.length_cons, List.length_nil, List.replicate, List.append_nil, List.nil_append, List.cons_append, List.getElem?_cons_zero, List.getElem?_cons_succ, List.getElem?_nil, List.set_cons_zero, List.set_cons_succ, Option.some.injEq, D.bl.injEq, D.int.injEq, D.tup.injEq, exists_eq_left', exists_eq_left, exists_and_left, true_and, and_true, Nat.reduceAdd, Nat.reduceSub, Nat.zero_add, if_true, if_false, Bool.false_eq_true, reduceCtorEq, decide_eq_true_eq, Nat.reduceEqDiff]
          rw [List.length_map]
          by_cases c : waysAt ps a.length = []
          · rw [if_pos (by simp [c])]
            have z := ke (2 + a.length) l (base _ (.inl ⟨a.length, ⟨by omega, by omega⟩, c, hq, rfl⟩))
            simpa using z
          · rw [if_neg (by simpa using c)]
            refine ⟨⟨_, rfl⟩, fun q h1 h2 => ?_⟩
            rw [List.length_append, List.length_singleton] at h2
            by_cases e : q = a.length
            · rw [e]; exact c
            · exact hq q h1 (by omega)
        · subst es ee
          simp only [m_fn, s_seq, s_if, s_ret, s_asg, s_expr, s_nx, s_bk, s_ct, s_par, s_raise, s_for, g_name, m_op, m_un, m_then, m_callb, m_var, m_c, m_call, m_callk, m_cons, m_nil, m_tup, m_lst, m_new, m_te, m_tand, m_tor, m_tnot, m_if, m_and, m_or, m_comp, v_add, v_sub, v_neg, v_lt, v_le, v_gt, v_ge, v_mod, v_fdiv, v_mul, v_int, v_abs, v_max, v_min, v_isN, v_notN, v_isB, v_not, v_len_t, v_eq_i, v_ne_i, v_eq_b, v_ix_t, wp_pure, wp_ite, List.map_cons, List.map_nil, List.length_cons, List.length_nil, List.replicate, List.append_nil, List.nil_append, List.cons_append, List.getElem?_cons_zero, List.getElem?_cons_succ, List.getElem?_nil, List.set_cons_zero, List.set_cons_succ, Option.some.injEq, D.bl.injEq, D.int.injEq, D.tup.injEq, exists_eq_left', exists_eq_left, exists_and_left, true_and, and_true, Nat.reduceAdd, Nat.reduceSub, Nat.zero_add, if_true, if_false, Bool.false_eq_true, reduceCtorEq, decide_eq_true_eq, Nat.reduceEqDiff]
          have hl : (rngD 0 many.toNat).length = many.toNat := by unfold rngD; simp
          exact kq l (base _ (.inr ⟨rfl, fun p h1 h2 => hq p h1 (by omega)⟩))
end
end K78
end part_P78d
section part_P78e
set_option maxHeartbeats 1000000
namespace Mir
open PySem L2
theorem s_try {t : Tab} {i : Option Nat} {Fb : FS} {Fs : Exn → FS} {Q : Fl → En → Sto → Prop} {E : Exn → En → Sto → Prop} {st : Sto} {en : En} : (sTry t i Fb Fs en st).Wp Q E ↔ (Fb en st).Wp Q (fun x en' st' => match t.lookup x.cls with
    | some true => (Fs x (offE i en') st').Wp (fun fl en2 st2 => Q fl (offE i en2) st2) (fun _ _ _ => False)
    | some false => E x en' st'
    | none => False) := by
  unfold sTry
  cases Fb en st with
  | bad => exact Iff.rfl
  | ok fl en' st' => exact Iff.rfl
  | err x en' st' =>
    show OutS.Wp _ Q E ↔ _
    dsimp only [OutS.Wp]
    cases t.lookup x.cls with
    | none => exact Iff.rfl
    | some b =>
      cases b with
      | false => exact Iff.rfl
      | true =>
        dsimp only
        cases Fs x (offE i en') st' <;> exact Iff.rfl
theorem s_orelse {c : En → M Bool} {r : En → M D} {g : FS} {Q : Fl → En → Sto → Prop} {E : Exn → En → Sto → Prop} {st : Sto} {en : En} : (sOrElse c r g en st).Wp Q E ↔ (c en st).Wp (fun k s1 => if k = true then (r en s1).Wp (fun d s2 => Q (.rt d) en s2) (fun x s2 => E x en s2) else (g en s1).Wp Q E) (fun x s1 => E x en s1) := by
  unfold sOrElse
  rw [wps_lift]
  constructor
  · intro h
    refine wp_mono h (fun k s1 q => ?_) fun _ _ z => z
    split at q
    · rename_i h
      rw [if_pos h]
      exact s_ret.mp q
    · rename_i h
      rw [if_neg h]
      exact q
  · intro h
    refine wp_mono h (fun k s1 q => ?_) fun _ _ z => z
    split at q
    · rename_i h
      rw [if_pos h]
      exact s_ret.mpr q
    · rename_i h
      rw [if_neg h]
      exact q
theorem m_tab {x : Exn} {t : Tab} {b : Bool} (h : t.lookup x.cls = some b) {Q : D → Sto → Prop} {E : Exn → Sto → Prop} {st : Sto} {en : En} : (fTab x t en st).Wp Q E ↔ Q (.bl b) st := by
  unfold fTab
  rw [h]
  exact Iff.rfl
theorem m_fldT {x : Exn} {t : Tab} {b : Bool} {f : Str} {d : D} (h : t.lookup x.cls = some b) (h2 : x.fs.lookup f = some d) {Q : D → Sto → Prop} {E : Exn → Sto → Prop} {st : Sto} {en : En} : (fFldT t x f en st).Wp Q E ↔ Q d st := by
  unfold fFldT
  rw [h, h2]
  exact Iff.rfl
def clean : Nat → D → Prop
  | 0, _ => False
  | n + 1, .tup xs => ∀ x ∈ xs, clean n x
  | _ + 1, .int _ => True
  | _ + 1, .bl _ => True
  | _ + 1, .str x => PySem.PyData.strOk x = true
  | _ + 1, _ => False
theorem zip_split {xs a b : List D} {d : D} (h : zipD xs xs = a ++ d :: b) : ∃ x ∈ xs, d = .tup [x, x] := by
  have hm : d ∈ zipD xs xs := by rw [h]; simp
  unfold zipD at hm
  have : ∀ l : List D, d ∈ List.zipWith (fun a b => D.tup [a, b]) l l → ∃ x ∈ l, d = .tup [x, x] := by
    intro l
    induction l with
    | nil => intro z; cases z
    | cons x l ih =>
      intro z
      rw [List.zipWith_cons_cons] at z
      rcases List.mem_cons.mp z with rfl | z
      · exact ⟨x, List.mem_cons_self .., rfl⟩
      · obtain ⟨y, hy, e⟩ := ih z
        exact ⟨y, List.mem_cons_of_mem _ hy, e⟩
  exact this _ hm
theorem v_zip_t {xs ys : List D} {Q : List D × Watch → Sto → Prop} {E : Exn → Sto → Prop} {st : Sto} : (bZip [.tup xs, .tup ys] st).Wp Q E ↔ Q (zipD xs ys, []) st := Iff.rfl
theorem py_str {st : Sto} {n : Nat} {x : Str} : py st n (.str x) = some (.str x) := by cases n <;> rfl
theorem v_eq_s {Q : D → Sto → Prop} {E : Exn → Sto → Prop} {st : Sto} {x : Str} (h : PySem.PyData.strOk x = true) : (gEq (.str x) (.str x) st).Wp Q E ↔ Q (.bl true) st := by
  have hs : SeqAt.shaped (.str x) = true := by
    unfold SeqAt.shaped
    rw [Bool.and_eq_true]
    exact ⟨by simp only [PyData.canLay0]; exact h, by simp [PyData.depth]⟩
  unfold gEq
  rw [v_cmp py_str py_str hs hs]
  have e : PyData.eqv (.str x) (.str x) = true := by
    show (x == x) = true
    simp
  rw [e]
  exact Iff.rfl
def isStr : D → Bool
  | .str _ => true
  | _ => false
theorem k_bool_bool2 : kitB "int" "str" = some false := by decide +kernel
theorem v_is_str {Q : D → Sto → Prop} {E : Exn → Sto → Prop} {st : Sto} {d : D} (h : okR st d) : (gIsi "str" d st).Wp Q E ↔ Q (.bl (isStr d)) st := by
  cases d with
  | non => exact v_isi rfl k_non_str
  | bl b => exact v_isi rfl k_bool_str
  | int i => exact v_isi rfl k_int_str
  | str x => exact v_isi rfl k_str_str
  | tup xs => exact v_isi rfl k_tuple_str
  | ref i => obtain ⟨xs, h⟩ := h; exact v_isi (ty_ref h) k_list_str
end Mir
namespace K78
open PySem Mir
section
variable {Q : D → Sto → Prop} {E : Exn → Sto → Prop} {st : Sto} {d : D}
theorem sp_same : ∀ (n : Nat) (d : D) {Q : D → Sto → Prop} {E : Exn → Sto → Prop} {st : Sto}, clean n d → Q (.bl true) st → (g__law_same n [d, d] st).Wp Q E
  | 0, _, _, _, _, h, _ => h.elim
  | n + 1, d, Q, E, st, h, q => by
    unfold g__law_same b__law_same_
    have hr : okR st d := by cases d <;> first | trivial | exact h.elim
    simp only [m_fn, s_seq, s_if, s_ret, s_asg, s_expr, s_nx, s_bk, s_ct, s_par, s_raise, s_for, g_name, m_op, m_un, m_then, m_callb, m_var, m_c, m_call, m_callk, m_cons, m_nil, m_tup, m_lst, m_new, m_te, m_tand, m_tor, m_tnot, m_if, m_and, m_or, m_comp, v_add, v_sub, v_neg, v_lt, v_le, v_gt, v_ge, v_mod, v_fdiv, v_mul, v_int, v_abs, v_max, v_min, v_isN, v_notN, v_isB, v_not, v_len_t, v_eq_i, v_ne_i, v_eq_b, v_ix_t, wp_pure, wp_ite, List.map_cons, List.map_nil, List.length_cons, List.length_nil, List.replicate, List.append_nil, List.nil_append, List.cons_append, List.getElem?_cons_zero, List.getElem?_cons_succ, List.getElem?_nil, List.set_cons_zero, List.set_cons_succ, Option.some.injEq, D.bl.injEq, D.int.injEq, D.tup.injEq, exists_eq_left', exists_eq_left, exists_and_left, true_and, and_true, Nat.reduceAdd, Nat.reduceSub, Nat.zero_add, if_true, if_false, Bool.false_eq_true, reduceCtorEq, decide_eq_true_eq, Nat.reduceEqDiff, v_is_tup hr, v_is_int hr, v_is_bool hr, v_is_str hr]
    cases d with
    | non => exact h.elim
    | ref i => exact h.elim
    | tup xs =>
      simp only [isTup, if_true, Bool.not_true, Bool.false_eq_true, if_false]
      simp only [m_fn, s_seq, s_if, s_ret, s_asg, s_expr, s_nx, s_bk, s_ct, s_par, s_raise, s_for, g_name, m_op, m_un, m_then, m_callb, m_var, m_c, m_call, m_callk, m_cons, m_nil, m_tup, m_lst, m_new, m_te, m_tand, m_tor, m_tnot, m_if, m_and, m_or, m_comp, v_add, v_sub, v_neg, v_lt, v_le, v_gt, v_ge, v_mod, v_fdiv, v_mul, v_int, v_abs, v_max, v_min, v_isN, v_notN, v_isB, v_not, v_len_t, v_eq_i, v_ne_i, v_eq_b, v_ix_t, wp_pure, wp_ite, List.map_cons, List.map_nil, List.length_cons, List.length_nil, List.replicate, List.append_nil, List.nil_append, List.cons_append, List.getElem?_cons_zero, List.getElem?_cons_succ, List.getElem?_nil, List.set_cons_zero, List.set_cons_succ, Option.some.injEq, D.bl.injEq, D.int.injEq, D.tup.injEq, exists_eq_left', exists_eq_left, exists_and_left, true_and, and_true, Nat.reduceAdd, Nat.reduceSub, Nat.zero_add, if_true, if_false, Bool.false_eq_true, reduceCtorEq, decide_eq_true_eq, Nat.reduceEqDiff, v_zip_t]
      simp only [decide_true, Bool.not_true, Bool.false_eq_true, if_false]
      refine for_inv (J := fun a b en s => s = st ∧ ∃ x y, en = [some (.tup xs), some (.tup xs), x, y]) ⟨rfl, _, _, rfl⟩ (fun _ _ _ _ _ => stays_nil) (fun a dd b en s e ⟨es, x, y, ee⟩ => ?_) (fun en s ⟨es, x, y, ee⟩ => ?_)
      · subst es ee
        obtain ⟨x, hx, rfl⟩ := zip_split e
        simp only [m_fn, s_seq, s_if, s_ret, s_asg, s_expr, s_nx, s_bk, s_ct, s_par, s_raise, s_for, g_name, m_op, m_un, m_then, m_callb, m_var, m_c, m_call, m_callk, m_cons, m_nil, m_tup, m_lst, m_new, m_te, m_tand, m_tor, m_tnot, m_if, m_and, m_or, m_comp, v_add, v_sub, v_neg, v_lt, v_le, v_gt, v_ge, v_mod, v_fdiv, v_mul, v_int, v_abs, v_max, v_min, v_isN, v_notN, v_isB, v_not, v_len_t, v_eq_i, v_ne_i, v_eq_b, v_ix_t, wp_pure, wp_ite, List.map_cons, List.map_nil, List.length_cons, List.length_nil, List.replicate, List.append_nil, List.nil_append, List.cons_append, List.getElem?_cons_zero, List.getElem?_cons_succ, List.getElem?_nil, List.set_cons_zero, List.set_cons_succ, Option.some.injEq, D.bl.injEq, D.int.injEq, D.tup.injEq, exists_eq_left', exists_eq_left, exists_and_left, true_and, and_true, Nat.reduceAdd, Nat.reduceSub, Nat.zero_add, if_true, if_false, Bool.false_eq_true, reduceCtorEq, decide_eq_true_eq, Nat.reduceEqDiff, g_tup, g_cons, g_nil]
        refine sp_same n x (h x hx) ?_
        simp only [m_fn, s_seq, s_if, s_ret, s_asg, s_expr, s_nx, s_bk, s_ct, s_par, s_raise, s_for, g_name, m_op, m_un, m_then, m_callb, m_var, m_c, m_call, m_callk, m_cons, m_nil, m_tup, m_lst, m_new, m_te, m_tand, m_tor, m_tnot, m_if, m_and, m_or, m_comp, v_add, v_sub, v_neg, v_lt, v_le, v_gt, v_ge, v_mod, v_fdiv, v_mul, v_int, v_abs, v_max, v_min, v_isN, v_notN, v_isB, v_not, v_len_t, v_eq_i, v_ne_i, v_eq_b, v_ix_t, wp_pure, wp_ite, List.map_cons, List.map_nil, List.length_cons, List.length_nil, List.replicate, List.append_nil, List.nil_append, List.cons_append, List.getElem?_cons_zero, List.getElem?_cons_succ, List.getElem?_nil, List.set_cons_zero, List.set_cons_succ, Option.some.injEq, D.bl.injEq, D.int.injEq, D.tup.injEq, exists_eq_left', exists_eq_left, exists_and_left, true_and, and_true, Nat.reduceAdd, Nat.reduceSub, Nat.zero_add, if_true, if_false, Bool.false_eq_true, reduceCtorEq, decide_eq_true_eq, Nat.reduceEqDiff]
        simp
      · subst es ee
        simp only [m_fn, s_seq, s_if, s_ret, s_asg, s_expr, s_nx, s_bk, s_ct, s_par, s_raise, s_for, g_name, m_op, m_un, m_then, m_callb, m_var, m_c, m_call, m_callk, m_cons, m_nil, m_tup, m_lst, m_new, m_te, m_tand, m_tor, m_tnot, m_if, m_and, m_or, m_comp, v_add, v_sub, v_neg, v_lt, v_le, v_gt, v_ge, v_mod, v_fdiv, v_mul, v_int, v_abs, v_max, v_min, v_isN, v_notN, v_isB, v_not, v_len_t, v_eq_i, v_ne_i, v_eq_b, v_ix_t, wp_pure, wp_ite, List.map_cons, List.map_nil, List.length_cons, List.length_nil, List.replicate, List.append_nil, List.nil_append, List.cons_append, List.getElem?_cons_zero, List.getElem?_cons_succ, List.getElem?_nil, List.set_cons_zero, List.set_cons_succ, Option.some.injEq, D.bl.injEq, D.int.injEq, D.tup.injEq, exists_eq_left', exists_eq_left, exists_and_left, true_and, and_true, Nat.reduceAdd, Nat.reduceSub, Nat.zero_add, if_true, if_false, Bool.false_eq_true, reduceCtorEq, decide_eq_true_eq, Nat.reduceEqDiff]
        exact q
    | int i =>
      simp only [isTup, isInt, isBool, D.isNon, D.isBl, Bool.false_eq_true, if_false, if_true, Bool.not_false]
      simp only [m_fn, s_seq, s_if, s_ret, s_asg, s_expr, s_nx, s_bk, s_ct, s_par, s_raise, s_for, g_name, m_op, m_un, m_then, m_callb, m_var, m_c, m_call, m_callk, m_cons, m_nil, m_tup, m_lst, m_new, m_te, m_tand, m_tor, m_tnot, m_if, m_and, m_or, m_comp, v_add, v_sub, v_neg, v_lt, v_le, v_gt, v_ge, v_mod, v_fdiv, v_mul, v_int, v_abs, v_max, v_min, v_isN, v_notN, v_isB, v_not, v_len_t, v_eq_i, v_ne_i, v_eq_b, v_ix_t, wp_pure, wp_ite, List.map_cons, List.map_nil, List.length_cons, List.length_nil, List.replicate, List.append_nil, List.nil_append, List.cons_append, List.getElem?_cons_zero, List.getElem?_cons_succ, List.getElem?_nil, List.set_cons_zero, List.set_cons_succ, Option.some.injEq, D.bl.injEq, D.int.injEq, D.tup.injEq, exists_eq_left', exists_eq_left, exists_and_left, true_and, and_true, Nat.reduceAdd, Nat.reduceSub, Nat.zero_add, if_true, if_false, Bool.false_eq_true, reduceCtorEq, decide_eq_true_eq, Nat.reduceEqDiff]
      simpa using q
    | bl b =>
      simp only [isTup, isInt, isBool, D.isNon, D.isBl, Bool.false_eq_true, if_false, if_true]
      simp only [m_fn, s_seq, s_if, s_ret, s_asg, s_expr, s_nx, s_bk, s_ct, s_par, s_raise, s_for, g_name, m_op, m_un, m_then, m_callb, m_var, m_c, m_call, m_callk, m_cons, m_nil, m_tup, m_lst, m_new, m_te, m_tand, m_tor, m_tnot, m_if, m_and, m_or, m_comp, v_add, v_sub, v_neg, v_lt, v_le, v_gt, v_ge, v_mod, v_fdiv, v_mul, v_int, v_abs, v_max, v_min, v_isN, v_notN, v_isB, v_not, v_len_t, v_eq_i, v_ne_i, v_eq_b, v_ix_t, wp_pure, wp_ite, List.map_cons, List.map_nil, List.length_cons, List.length_nil, List.replicate, List.append_nil, List.nil_append, List.cons_append, List.getElem?_cons_zero, List.getElem?_cons_succ, List.getElem?_nil, List.set_cons_zero, List.set_cons_succ, Option.some.injEq, D.bl.injEq, D.int.injEq, D.tup.injEq, exists_eq_left', exists_eq_left, exists_and_left, true_and, and_true, Nat.reduceAdd, Nat.reduceSub, Nat.zero_add, if_true, if_false, Bool.false_eq_true, reduceCtorEq, decide_eq_true_eq, Nat.reduceEqDiff]
      cases b <;> simpa using q
    | str x =>
      simp only [isTup, isInt, isBool, isStr, D.isNon, D.isBl, Bool.false_eq_true, if_false, if_true]
      simp only [m_fn, s_seq, s_if, s_ret, s_asg, s_expr, s_nx, s_bk, s_ct, s_par, s_raise, s_for, g_name, m_op, m_un, m_then, m_callb, m_var, m_c, m_call, m_callk, m_cons, m_nil, m_tup, m_lst, m_new, m_te, m_tand, m_tor, m_tnot, m_if, m_and, m_or, m_comp, v_add, v_sub, v_neg, v_lt, v_le, v_gt, v_ge, v_mod, v_fdiv, v_mul, v_int, v_abs, v_max, v_min, v_isN, v_notN, v_isB, v_not, v_len_t, v_eq_i, v_ne_i, v_eq_b, v_ix_t, wp_pure, wp_ite, List.map_cons, List.map_nil, List.length_cons, List.length_nil, List.replicate, List.append_nil, List.nil_append, List.cons_append, List.getElem?_cons_zero, List.getElem?_cons_succ, List.getElem?_nil, List.set_cons_zero, List.set_cons_succ, Option.some.injEq, D.bl.injEq, D.int.injEq, D.tup.injEq, exists_eq_left', exists_eq_left, exists_and_left, true_and, and_true, Nat.reduceAdd, Nat.reduceSub, Nat.zero_add, if_true, if_false, Bool.false_eq_true, reduceCtorEq, decide_eq_true_eq, Nat.reduceEqDiff, v_eq_s h]
      exact q
theorem sp_told {named : Bool} (h : okD st d) (h2 : ∀ a xs, d = .tup [a, .tup xs] → ∀ x ∈ xs, okD st x) (kq : ∀ l, ChkR d none → Q (.tup [.str "told", d]) (st ++ l)) (ke : ∀ a l, ChkR d (some a) → Q (.tup [.str "refused", .int a]) (st ++ l)) :
    (g__law_told [d, .bl named] st).Wp Q E := by
  unfold g__law_told b__law_told_
  simp only [m_fn, s_seq, s_if, s_ret, s_asg, s_expr, s_nx, s_bk, s_ct, s_par, s_raise, s_for, g_name, m_op, m_un, m_then, m_callb, m_var, m_c, m_call, m_callk, m_cons, m_nil, m_tup, m_lst, m_new, m_te, m_tand, m_tor, m_tnot, m_if, m_and, m_or, m_comp, v_add, v_sub, v_neg, v_lt, v_le, v_gt, v_ge, v_mod, v_fdiv, v_mul, v_int, v_abs, v_max, v_min, v_isN, v_notN, v_isB, v_not, v_len_t, v_eq_i, v_ne_i, v_eq_b, v_ix_t, wp_pure, wp_ite, List.map_cons, List.map_nil, List.length_cons, List.length_nil, List.replicate, List.append_nil, List.nil_append, List.cons_append, List.getElem?_cons_zero, List.getElem?_cons_succ, List.getElem?_nil, List.set_cons_zero, List.set_cons_succ, Option.some.injEq, D.bl.injEq, D.int.injEq, D.tup.injEq, exists_eq_left', exists_eq_left, exists_and_left, true_and, and_true, Nat.reduceAdd, Nat.reduceSub, Nat.zero_add, if_true, if_false, Bool.false_eq_true, reduceCtorEq, decide_eq_true_eq, Nat.reduceEqDiff, s_try]
  have t1 : List.lookup ("BadNet" : Str) (tabOf rs "OwnError") = some true := by decide +kernel
  have t2 : List.lookup ("BadNet" : Str) (tabOf rs "BadNet") = some true := by decide +kernel
  have t3 : List.lookup ("BadNet" : Str) (tabOf rs "BadWeb") = some false := by decide +kernel
  have t4 : List.lookup ("BadNet" : Str) (tabOf rs "BadPlace") = some false := by decide +kernel
  have t5 : List.lookup ("BadNet" : Str) (tabOf rs "Refused") = some false := by decide +kernel
  split <;>
  · refine sp_check h h2 (fun l hl => ?_) (fun a l hl => ?_)
    · exact ⟨by show 2 ≤ sizeLine; unfold sizeLine; omega, kq l hl⟩
    · dsimp only
      rw [t1]
      dsimp only [offE]
      simp only [m_fn, s_seq, s_if, s_ret, s_asg, s_expr, s_nx, s_bk, s_ct, s_par, s_raise, s_for, g_name, m_op, m_un, m_then, m_callb, m_var, m_c, m_call, m_callk, m_cons, m_nil, m_tup, m_lst, m_new, m_te, m_tand, m_tor, m_tnot, m_if, m_and, m_or, m_comp, v_add, v_sub, v_neg, v_lt, v_le, v_gt, v_ge, v_mod, v_fdiv, v_mul, v_int, v_abs, v_max, v_min, v_isN, v_notN, v_isB, v_not, v_len_t, v_eq_i, v_ne_i, v_eq_b, v_ix_t, wp_pure, wp_ite, List.map_cons, List.map_nil, List.length_cons, List.length_nil, List.replicate, List.append_nil, List.nil_append, List.cons_append, List.getElem?_cons_zero, List.getElem?_cons_succ, List.getElem?_nil, List.set_cons_zero, List.set_cons_succ, Option.some.injEq, D.bl.injEq, D.int.injEq, D.tup.injEq, exists_eq_left', exists_eq_left, exists_and_left, true_and, and_true, Nat.reduceAdd, Nat.reduceSub, Nat.zero_add, if_true, if_false, Bool.false_eq_true, reduceCtorEq, decide_eq_true_eq, Nat.reduceEqDiff, s_orelse, m_tab (x := ⟨"BadNet", [("at", .int a)]⟩) t2, m_tab (x := ⟨"BadNet", [("at", .int a)]⟩) t3, m_tab (x := ⟨"BadNet", [("at", .int a)]⟩) t4, m_tab (x := ⟨"BadNet", [("at", .int a)]⟩) t5, m_fldT (x := ⟨"BadNet", [("at", .int a)]⟩) t1 (show List.lookup ("at" : Str) [(("at" : Str), D.int a)] = some (.int a) by simp [List.lookup])]
      simp only [Bool.not_true, Bool.false_eq_true, if_false]
      exact ⟨by show 2 ≤ sizeLine; unfold sizeLine; omega, ke a l hl⟩
end
end K78
end part_P78e
section part_P78f
set_option maxHeartbeats 1000000
namespace Mir
open PySem L2
/-! ### lists of the store -/
section
variable {Q : D → Sto → Prop} {QL : List D → Sto → Prop} {E : Exn → Sto → Prop} {st : Sto} {en : En}
theorem g_sub {Fo Fi : En → M D} {d : D} {Q : En → Sto → Prop} : (gtSub Fo Fi d en st).Wp Q E ↔ (Fo en st).Wp (fun o s1 => (Fi en s1).Wp (fun i s2 => (gSet o i d s2).Wp (fun _ s3 => Q en s3) E) fun _ _ => False) fun _ _ => False := by
  unfold gtSub
  rw [wp_bind, wp_noErr]
  constructor
  · intro h
    refine wp_mono h (fun o s1 q => ?_) fun _ _ z => z
    rw [wp_bind, wp_noErr] at q
    refine wp_mono q (fun i s2 q => ?_) fun _ _ z => z
    rw [wp_bind] at q
    exact q
  · intro h
    refine wp_mono h (fun o s1 q => ?_) fun _ _ z => z
    rw [wp_bind, wp_noErr]
    refine wp_mono q (fun i s2 q => ?_) fun _ _ z => z
    rw [wp_bind]
    exact q
theorem v_set_l {j n : Nat} {k : Int} {xs : List D} {d : D} {Q : Unit → Sto → Prop} (h : st[j]? = some (.lst xs)) (hk : ixN xs.length k = some n) : (gSet (.ref j) (.int k) d st).Wp Q E ↔ Q () (st.set j (.lst (xs.set n d))) := by
  show (setOb j (.int k) d st).Wp Q E ↔ _
  unfold setOb
  rw [h]
  dsimp only
  rw [hk]
  exact Iff.rfl
theorem m_app {Fo : En → M D} {Fa : En → M (List D)} : (fBm "list" gAppend Fo Fa en st).Wp Q E ↔ (Fo en st).Wp (fun x s1 => tyName s1 x = some "list" ∧ (Fa en s1).Wp (fun ds s2 => (gAppend x ds s2).Wp Q E) E) E := by
  unfold fBm
  rw [wp_bind]
  constructor
  · intro h
    refine wp_mono h (fun x s1 q => ?_) fun _ _ z => z
    obtain ⟨a, q⟩ := wp_isTy.mp (wp_bind.mp q)
    exact ⟨a.2, wp_bind.mp q⟩
  · intro h
    refine wp_mono h (fun x s1 q => ?_) fun _ _ z => z
    exact wp_bind.mpr (wp_isTy.mpr ⟨⟨.inl rfl, q.1⟩, wp_bind.mpr q.2⟩)
theorem m_cnt {Fo : En → M D} {Fa : En → M (List D)} : (fBm "list" gCount Fo Fa en st).Wp Q E ↔ (Fo en st).Wp (fun x s1 => tyName s1 x = some "list" ∧ (Fa en s1).Wp (fun ds s2 => (gCount x ds s2).Wp Q E) E) E := by
  unfold fBm
  rw [wp_bind]
  constructor
  · intro h
    refine wp_mono h (fun x s1 q => ?_) fun _ _ z => z
    obtain ⟨a, q⟩ := wp_isTy.mp (wp_bind.mp q)
    exact ⟨a.2, wp_bind.mp q⟩
  · intro h
    refine wp_mono h (fun x s1 q => ?_) fun _ _ z => z
    exact wp_bind.mpr (wp_isTy.mpr ⟨⟨.inl rfl, q.1⟩, wp_bind.mpr q.2⟩)
theorem v_app {i : Nat} {xs : List D} {d : D} (h : st[i]? = some (.lst xs)) (hl : xs.length < sizeLine) : (gAppend (.ref i) [d] st).Wp Q E ↔ Q .non (st.set i (.lst (xs ++ [d]))) := by
  show (gAppend1 i d st).Wp Q E ↔ _
  unfold gAppend1
  rw [wp_bind]
  unfold rdLst
  rw [h]
  show ((if xs.length < sizeLine then wrLst i (xs ++ [d]) >>= fun _ => pure D.non else bad : M D) st).Wp Q E ↔ _
  rw [if_pos hl]
  exact Iff.rfl
theorem v_cat {i k : Nat} {a b : List D} (h : st[i]? = some (.lst a)) (h2 : st[k]? = some (.lst b)) (hl : a.length + b.length ≤ sizeLine) : (gAdd (.ref i) (.ref k) st).Wp Q E ↔ Q (.ref st.length) (st ++ [.lst (a ++ b)]) := by
  show (gCat i k st).Wp Q E ↔ _
  unfold gCat
  rw [h, h2]
  dsimp only
  rw [wp_bind, wp_within]
  exact ⟨fun q => q.2, fun q => ⟨hl, q⟩⟩
theorem v_items_l {i : Nat} {xs : List D} (h : st[i]? = some (.lst xs)) : (gItems (.ref i) st).Wp QL E ↔ QL xs st := by
  show (rdL i st).Wp QL E ↔ _
  have : listAt st i = some xs := by unfold listAt; rw [h]
  unfold rdL
  rw [this]
  exact Iff.rfl
theorem v_walk_l {i : Nat} {xs : List D} {Q : List D × Watch → Sto → Prop} (h : st[i]? = some (.lst xs)) : (gWalk (.ref i) st).Wp Q E ↔ Q (xs, [(i, xs)]) st := by
  show ((rdL i >>= fun xs => pure (xs, [(i, xs)])) st).Wp Q E ↔ _
  rw [wp_bind]
  have : listAt st i = some xs := by unfold listAt; rw [h]
  unfold rdL
  rw [this]
  exact Iff.rfl
end
/-! ### the box -/
def Box (st : Sto) (j : Nat) : Prop := ∃ g h : Int, st[j]? = some (.lst [.int g, .int h])
/-- the box alone is written, new objects come -/
structure Wk (j : Nat) (st s' : Sto) : Prop where
  le : st.length ≤ s'.length
  keep : ∀ i, i ≠ j → i < st.length → s'[i]? = st[i]?
  box : Box st j → Box s' j
theorem Wk.refl {j : Nat} {st : Sto} : Wk j st st := ⟨Nat.le_refl _, fun _ _ _ => rfl, id⟩
theorem Wk.trans {j : Nat} {a b c : Sto} (h : Wk j a b) (g : Wk j b c) : Wk j a c := ⟨Nat.le_trans h.le g.le, fun i hi hl => (g.keep i hi (Nat.lt_of_lt_of_le hl h.le)).trans (h.keep i hi hl), fun z => g.box (h.box z)⟩
theorem Wk.app {j : Nat} {st l : Sto} : Wk j st (st ++ l) := ⟨by simp, fun i _ hl => List.getElem?_append_left hl, fun ⟨g, h, e⟩ => ⟨g, h, by rw [List.getElem?_append_left (List.getElem?_eq_some_iff.mp e).1]; exact e⟩⟩
theorem Wk.set {j : Nat} {st : Sto} {g h : Int} (hj : j < st.length) : Wk j st (st.set j (.lst [.int g, .int h])) := ⟨by simp, fun i hi hl => List.getElem?_set_ne (Ne.symm hi), fun _ => ⟨g, h, List.getElem?_set_self hj⟩⟩
theorem Wk.at {j i : Nat} {st s' : Sto} {o : Ob} (w : Wk j st s') (h : st[i]? = some o) (hi : i ≠ j) : s'[i]? = some o := (w.keep i hi (List.getElem?_eq_some_iff.mp h).1).trans h
/-- a list of one's own is written -/
theorem Wk.own {j i : Nat} {st s' : Sto} {o : Ob} (w : Wk j st s') (hi : st.length ≤ i) (hj : j < st.length) : Wk j st (s'.set i o) :=
  ⟨by rw [List.length_set]; exact w.le, fun k hk hl => by rw [List.getElem?_set_ne (by omega)]; exact w.keep k hk hl, fun z => by
    obtain ⟨g, h, e⟩ := w.box z
    exact ⟨g, h, by rw [List.getElem?_set_ne (by omega)]; exact e⟩⟩
theorem Box.lt {j : Nat} {st : Sto} (h : Box st j) : j < st.length := by
  obtain ⟨_, _, e⟩ := h
  exact (List.getElem?_eq_some_iff.mp e).1
theorem mulOk_r {i j : Int} (h : -(2 ^ 64) < j ∧ j < 2 ^ 64) : mulOk i j := .inl (.inr h)
end Mir
namespace K78
open PySem Mir
section
variable {Q : D → Sto → Prop} {E : Exn → Sto → Prop} {st : Sto} {j : Nat}
theorem sp_take {m : Int} (hb : Box st j) (hm : 0 < m) (hm2 : m ≤ 1000) (k : ∀ (r : Int) (s' : Sto), 0 ≤ r → r < m → Wk j st s' → Q (.int r) s') : (g__law_take [.ref j, .int m] st).Wp Q E := by
  obtain ⟨g, h, e⟩ := hb
  have hj := (List.getElem?_eq_some_iff.mp e).1
  have i0 : L2.ixN [D.int g, D.int h].length 0 = some 0 := rfl
  have i1 : L2.ixN [D.int g, D.int h].length 1 = some 1 := rfl
  unfold g__law_take b__law_take_
  simp only [m_fn, s_seq, s_if, s_ret, s_asg, s_expr, s_nx, s_bk, s_ct, s_par, s_raise, s_for, g_name, m_op, m_un, m_then, m_callb, m_var, m_c, m_call, m_callk, m_cons, m_nil, m_tup, m_lst, m_new, m_te, m_tand, m_tor, m_tnot, m_if, m_and, m_or, m_comp, v_add, v_sub, v_neg, v_lt, v_le, v_gt, v_ge, v_mod, v_fdiv, v_mul, v_int, v_abs, v_max, v_min, v_isN, v_notN, v_isB, v_not, v_len_t, v_eq_i, v_ne_i, v_eq_b, v_ix_t, wp_pure, wp_ite, List.map_cons, List.map_nil, List.length_cons, List.length_nil, List.replicate, List.append_nil, List.nil_append, List.cons_append, List.getElem?_cons_zero, List.getElem?_cons_succ, List.getElem?_nil, List.set_cons_zero, List.set_cons_succ, Option.some.injEq, D.bl.injEq, D.int.injEq, D.tup.injEq, exists_eq_left', exists_eq_left, exists_and_left, true_and, and_true, Nat.reduceAdd, Nat.reduceSub, Nat.zero_add, if_true, if_false, Bool.false_eq_true, reduceCtorEq, decide_eq_true_eq, Nat.reduceEqDiff, v_ix_l e, at0, at1, g_sub, v_set_l e i0, v_set_l e i1]
  have lg : m.natAbs.log2 < 9000 := by
    have : m.natAbs ≤ 1000 := by omega
    have h2 : m.natAbs.log2 ≤ m.natAbs := Nat.log2_le_self _
    omega
  by_cases c : 0 < g
  · rw [if_pos c]
    refine ⟨hm, ⟨hm, lg⟩, ?_⟩
    exact k _ _ (Int.emod_nonneg _ (by omega)) (Int.emod_lt_of_pos _ hm) (Wk.set hj)
  · rw [if_neg c]
    have e2 : ∀ o : Ob, (st.set j o)[j]? = some o := fun o => List.getElem?_set_self hj
    simp only [m_fn, s_seq, s_if, s_ret, s_asg, s_expr, s_nx, s_bk, s_ct, s_par, s_raise, s_for, g_name, m_op, m_un, m_then, m_callb, m_var, m_c, m_call, m_callk, m_cons, m_nil, m_tup, m_lst, m_new, m_te, m_tand, m_tor, m_tnot, m_if, m_and, m_or, m_comp, v_add, v_sub, v_neg, v_lt, v_le, v_gt, v_ge, v_mod, v_fdiv, v_mul, v_int, v_abs, v_max, v_min, v_isN, v_notN, v_isB, v_not, v_len_t, v_eq_i, v_ne_i, v_eq_b, v_ix_t, wp_pure, wp_ite, List.map_cons, List.map_nil, List.length_cons, List.length_nil, List.replicate, List.append_nil, List.nil_append, List.cons_append, List.getElem?_cons_zero, List.getElem?_cons_succ, List.getElem?_nil, List.set_cons_zero, List.set_cons_succ, Option.some.injEq, D.bl.injEq, D.int.injEq, D.tup.injEq, exists_eq_left', exists_eq_left, exists_and_left, true_and, and_true, Nat.reduceAdd, Nat.reduceSub, Nat.zero_add, if_true, if_false, Bool.false_eq_true, reduceCtorEq, decide_eq_true_eq, Nat.reduceEqDiff, v_ix_l (e2 _), at1]
    refine ⟨mulOk_r (by decide), by decide, mulOk_r (by decide), by decide, mulOk_r (by decide), by decide, hm, ?_⟩
    exact k _ _ (Int.emod_nonneg _ (by omega)) (Int.emod_lt_of_pos _ hm) (Wk.set hj)
theorem sp_pick {i : Nat} {xs : List D} (hb : Box st j) (hi : st[i]? = some (.lst xs)) (hij : i ≠ j) (h0 : 0 < xs.length) (h1 : xs.length ≤ 1000) (k : ∀ (d : D) (s' : Sto), d ∈ xs → Wk j st s' → Q d s') : (g__law_pick [.ref j, .ref i] st).Wp Q E := by
  unfold g__law_pick b__law_pick_
  simp only [m_fn, s_seq, s_if, s_ret, s_asg, s_expr, s_nx, s_bk, s_ct, s_par, s_raise, s_for, g_name, m_op, m_un, m_then, m_callb, m_var, m_c, m_call, m_callk, m_cons, m_nil, m_tup, m_lst, m_new, m_te, m_tand, m_tor, m_tnot, m_if, m_and, m_or, m_comp, v_add, v_sub, v_neg, v_lt, v_le, v_gt, v_ge, v_mod, v_fdiv, v_mul, v_int, v_abs, v_max, v_min, v_isN, v_notN, v_isB, v_not, v_len_t, v_eq_i, v_ne_i, v_eq_b, v_ix_t, wp_pure, wp_ite, List.map_cons, List.map_nil, List.length_cons, List.length_nil, List.replicate, List.append_nil, List.nil_append, List.cons_append, List.getElem?_cons_zero, List.getElem?_cons_succ, List.getElem?_nil, List.set_cons_zero, List.set_cons_succ, Option.some.injEq, D.bl.injEq, D.int.injEq, D.tup.injEq, exists_eq_left', exists_eq_left, exists_and_left, true_and, and_true, Nat.reduceAdd, Nat.reduceSub, Nat.zero_add, if_true, if_false, Bool.false_eq_true, reduceCtorEq, decide_eq_true_eq, Nat.reduceEqDiff, v_len_l hi]
  refine sp_take hb (by omega) (by omega) fun r s' r0 r1 w => ?_
  have hs := w.at hi hij
  simp only [m_fn, s_seq, s_if, s_ret, s_asg, s_expr, s_nx, s_bk, s_ct, s_par, s_raise, s_for, g_name, m_op, m_un, m_then, m_callb, m_var, m_c, m_call, m_callk, m_cons, m_nil, m_tup, m_lst, m_new, m_te, m_tand, m_tor, m_tnot, m_if, m_and, m_or, m_comp, v_add, v_sub, v_neg, v_lt, v_le, v_gt, v_ge, v_mod, v_fdiv, v_mul, v_int, v_abs, v_max, v_min, v_isN, v_notN, v_isB, v_not, v_len_t, v_eq_i, v_ne_i, v_eq_b, v_ix_t, wp_pure, wp_ite, List.map_cons, List.map_nil, List.length_cons, List.length_nil, List.replicate, List.append_nil, List.nil_append, List.cons_append, List.getElem?_cons_zero, List.getElem?_cons_succ, List.getElem?_nil, List.set_cons_zero, List.set_cons_succ, Option.some.injEq, D.bl.injEq, D.int.injEq, D.tup.injEq, exists_eq_left', exists_eq_left, exists_and_left, true_and, and_true, Nat.reduceAdd, Nat.reduceSub, Nat.zero_add, if_true, if_false, Bool.false_eq_true, reduceCtorEq, decide_eq_true_eq, Nat.reduceEqDiff, v_ix_l hs]
  obtain ⟨n, rfl⟩ := Int.eq_ofNat_of_zero_le r0
  have hn : n < xs.length := by omega
  exact ⟨xs[n], atI_nat (by simp [hn]), k _ _ (List.getElem_mem hn) w⟩
theorem sp_goal {many place : Int} (hb : Box st j) (hm : 0 < many) (hm2 : many ≤ 1000) (hp : 0 ≤ place ∧ place < many) (k : ∀ (r : Int) (s' : Sto), 0 ≤ r → r ≤ many → r ≠ place → Wk j st s' → Q (.int r) s') : (g__law_goal [.ref j, .int many, .int place] st).Wp Q E := by
  unfold g__law_goal b__law_goal_
  simp only [m_fn, s_seq, s_if, s_ret, s_asg, s_expr, s_nx, s_bk, s_ct, s_par, s_raise, s_for, g_name, m_op, m_un, m_then, m_callb, m_var, m_c, m_call, m_callk, m_cons, m_nil, m_tup, m_lst, m_new, m_te, m_tand, m_tor, m_tnot, m_if, m_and, m_or, m_comp, v_add, v_sub, v_neg, v_lt, v_le, v_gt, v_ge, v_mod, v_fdiv, v_mul, v_int, v_abs, v_max, v_min, v_isN, v_notN, v_isB, v_not, v_len_t, v_eq_i, v_ne_i, v_eq_b, v_ix_t, wp_pure, wp_ite, List.map_cons, List.map_nil, List.length_cons, List.length_nil, List.replicate, List.append_nil, List.nil_append, List.cons_append, List.getElem?_cons_zero, List.getElem?_cons_succ, List.getElem?_nil, List.set_cons_zero, List.set_cons_succ, Option.some.injEq, D.bl.injEq, D.int.injEq, D.tup.injEq, exists_eq_left', exists_eq_left, exists_and_left, true_and, and_true, Nat.reduceAdd, Nat.reduceSub, Nat.zero_add, if_true, if_false, Bool.false_eq_true, reduceCtorEq, decide_eq_true_eq, Nat.reduceEqDiff]
  refine sp_take hb hm hm2 fun r s' r0 r1 w => ?_
  simp only [m_fn, s_seq, s_if, s_ret, s_asg, s_expr, s_nx, s_bk, s_ct, s_par, s_raise, s_for, g_name, m_op, m_un, m_then, m_callb, m_var, m_c, m_call, m_callk, m_cons, m_nil, m_tup, m_lst, m_new, m_te, m_tand, m_tor, m_tnot, m_if, m_and, m_or, m_comp, v_add, v_sub, v_neg, v_lt, v_le, v_gt, v_ge, v_mod, v_fdiv, v_mul, v_int, v_abs, v_max, v_min, v_isN, v_notN, v_isB, v_not, v_len_t, v_eq_i, v_ne_i, v_eq_b, v_ix_t, wp_pure, wp_ite, List.map_cons, List.map_nil, List.length_cons, List.length_nil, List.replicate, List.append_nil, List.nil_append, List.cons_append, List.getElem?_cons_zero, List.getElem?_cons_succ, List.getElem?_nil, List.set_cons_zero, List.set_cons_succ, Option.some.injEq, D.bl.injEq, D.int.injEq, D.tup.injEq, exists_eq_left', exists_eq_left, exists_and_left, true_and, and_true, Nat.reduceAdd, Nat.reduceSub, Nat.zero_add, if_true, if_false, Bool.false_eq_true, reduceCtorEq, decide_eq_true_eq, Nat.reduceEqDiff]
  by_cases c : r = place
  · simp only [c, decide_true, Bool.not_true, Bool.false_eq_true, if_false]
    exact k _ _ (by omega) (by omega) (by omega) w
  · simp only [c, decide_false, Bool.not_false, if_true]
    exact k _ _ r0 (by omega) c w
end
end K78
end part_P78f
section part_P78g
set_option maxHeartbeats 1000000
namespace Mir
open PySem L2
theorem srtP_perm (ps : List PR) : List.Perm (srtP ps) ps := List.mergeSort_perm ps leP
theorem srtP_mem {ps : List PR} {p : PR} : p ∈ srtP ps ↔ p ∈ ps := (srtP_perm ps).mem_iff
theorem srtP_len (ps : List PR) : (srtP ps).length = ps.length := (srtP_perm ps).length_eq
theorem srtP_pw (ps : List PR) : List.Pairwise (fun a b => leP a b = true) (srtP ps) := List.pairwise_mergeSort leP_trans leP_total ps
theorem srtP_of {ps : List PR} (h : List.Pairwise (fun a b => leP a b = true) ps) : srtP ps = ps := List.mergeSort_of_pairwise h
theorem srtP_idem (ps : List PR) : srtP (srtP ps) = srtP ps := srtP_of (srtP_pw ps)
theorem pD_push {ps : List PR} {p : PR} : ps.map pD ++ [pD p] = (ps ++ [p]).map pD := by simp
end Mir
namespace K78
open PySem Mir
section
variable {Q : D → Sto → Prop} {E : Exn → Sto → Prop} {st : Sto} {j : Nat}
def wayOk (many : Int) (p : PR) : Prop := (0 ≤ p.1 ∧ p.1 < many) ∧ (0 ≤ p.2 ∧ p.2 ≤ many) ∧ p.1 ≠ p.2
structure Good (many : Int) (ps : List PR) : Prop where
  m : 1 ≤ many ∧ many ≤ 7
  len : ps.length ≤ 14
  ok : ∀ p ∈ ps, wayOk many p
  srt : ps = srtP ps
  all : ∀ k : Int, 0 ≤ k → k < many → ∃ p ∈ ps, p.1 = k
/-- what the loops of the nets keep -/
structure Grown (j i : Nat) (st s : Sto) (many : Int) (ps : List PR) : Prop where
  w : Wk j st s
  new : st.length ≤ i
  at_ : s[i]? = some (.lst (ps.map pD))
  ok : ∀ p ∈ ps, wayOk many p
theorem Grown.push {i : Nat} {s : Sto} {many : Int} {ps : List PR} {p : PR} (h : Grown j i st s many ps) (hj : j < st.length) (hp : wayOk many p) : Grown j i st (s.set i (.lst (ps.map pD ++ [pD p]))) many (ps ++ [p]) := by
  refine ⟨h.w.own h.new hj, h.new, ?_, fun q hq => ?_⟩
  · rw [List.getElem?_set_self (List.getElem?_eq_some_iff.mp h.at_).1, pD_push]
  · rcases List.mem_append.mp hq with hq | hq
    · exact h.ok q hq
    · rw [List.mem_singleton.mp hq]; exact hp
theorem Grown.step {i : Nat} {s s' : Sto} {many : Int} {ps : List PR} (h : Grown j i st s many ps) (hj : j < st.length) (w : Wk j s s') : Grown j i st s' many ps := ⟨h.w.trans w, h.new, w.at h.at_ (by have := h.new; omega), h.ok⟩
theorem good_end {many : Int} {ps : List PR} (m1 : 1 ≤ many) (m2 : many ≤ 7) (h : ∀ p ∈ ps, wayOk many p) (l : ps.length ≤ 14) (ha : ∀ k : Int, 0 ≤ k → k < many → ∃ p ∈ ps, p.1 = k) : Good many (srtP ps) :=
  ⟨⟨m1, m2⟩, by rw [srtP_len]; exact l, fun p hp => h p (srtP_mem.mp hp), (srtP_idem ps).symm, fun k h1 h2 => by
    obtain ⟨p, hp, e⟩ := ha k h1 h2
    exact ⟨p, srtP_mem.mpr hp, e⟩⟩
theorem tyL {i : Nat} {s : Sto} {xs : List D} (h : s[i]? = some (.lst xs)) : tyName s (.ref i) = some "list" := ty_ref h
theorem szL {n : Nat} (h : n ≤ 1000) : n < sizeLine := by unfold sizeLine; omega
/-- the first loop of a net: n places done -/
def NetJ (j i : Nat) (st : Sto) (many : Int) (h : En) (n c : Nat) (en : En) (s : Sto) : Prop := ∃ (ps : List PR) (e : En), en = h ++ some (.ref i) :: e ∧ Grown j i st s many ps ∧ ps.length ≤ c ∧ ∀ q : Int, 0 ≤ q → q < n → ∃ p ∈ ps, p.1 = q
theorem NetJ.more {i : Nat} {s' : Sto} {many : Int} {h : En} {n c' n' : Nat} {en : En} {ps : List PR} {e : En} {l : List PR} (G : Grown j i st s' many (ps ++ l)) (he : en = h ++ some (.ref i) :: e) (hc : (ps ++ l).length ≤ c') (ha : ∀ q : Int, 0 ≤ q → q < n → ∃ p ∈ ps, p.1 = q)
    (hn : n' ≤ n ∨ (n' = n + 1 ∧ ∃ p ∈ l, p.1 = (n : Int))) : NetJ j i st many h n' c' en s' := by
  refine ⟨ps ++ l, e, he, G, hc, fun q h1 h2 => ?_⟩
  by_cases c : q < n
  · obtain ⟨p, hp, e⟩ := ha q h1 c
    exact ⟨p, List.mem_append_left _ hp, e⟩
  · rcases hn with hn | ⟨hn, p, hp, e⟩
    · omega
    · exact ⟨p, List.mem_append_right _ hp, by omega⟩
theorem sp_net (hb : Box st j) (k : ∀ (many : Int) (ps : List PR) (s' : Sto), Good many ps → Wk j st s' → Q (netD many ps) s') : (g__law_net [.ref j, .int 7, .int 14] st).Wp Q E := by
  have hj := hb.lt
  unfold g__law_net b__law_net_
  simp only [m_fn, s_seq, s_if, s_ret, s_asg, s_expr, s_nx, s_bk, s_ct, s_par, s_raise, s_for, g_name, m_op, m_un, m_then, m_callb, m_var, m_c, m_call, m_callk, m_cons, m_nil, m_tup, m_lst, m_new, m_te, m_tand, m_tor, m_tnot, m_if, m_and, m_or, m_comp, v_add, v_sub, v_neg, v_lt, v_le, v_gt, v_ge, v_mod, v_fdiv, v_mul, v_int, v_abs, v_max, v_min, v_isN, v_notN, v_isB, v_not, v_len_t, v_eq_i, v_ne_i, v_eq_b, v_ix_t, wp_pure, wp_ite, List.map_cons, List.map_nil, List.length_cons, List.length_nil, List.replicate, List.append_nil, List.nil_append, List.cons_append, List.getElem?_cons_zero, List.getElem?_cons_succ, List.getElem?_nil, List.set_cons_zero, List.set_cons_succ, Option.some.injEq, D.bl.injEq, D.int.injEq, D.tup.injEq, exists_eq_left', exists_eq_left, exists_and_left, true_and, and_true, Nat.reduceAdd, Nat.reduceSub, Nat.zero_add, if_true, if_false, Bool.false_eq_true, reduceCtorEq, decide_eq_true_eq, Nat.reduceEqDiff]
  refine sp_take hb (by decide) (by decide) fun r s1 r0 r1 w1 => ?_
  simp only [m_fn, s_seq, s_if, s_ret, s_asg, s_expr, s_nx, s_bk, s_ct, s_par, s_raise, s_for, g_name, m_op, m_un, m_then, m_callb, m_var, m_c, m_call, m_callk, m_cons, m_nil, m_tup, m_lst, m_new, m_te, m_tand, m_tor, m_tnot, m_if, m_and, m_or, m_comp, v_add, v_sub, v_neg, v_lt, v_le, v_gt, v_ge, v_mod, v_fdiv, v_mul, v_int, v_abs, v_max, v_min, v_isN, v_notN, v_isB, v_not, v_len_t, v_eq_i, v_ne_i, v_eq_b, v_ix_t, wp_pure, wp_ite, List.map_cons, List.map_nil, List.length_cons, List.length_nil, List.replicate, List.append_nil, List.nil_append, List.cons_append, List.getElem?_cons_zero, List.getElem?_cons_succ, List.getElem?_nil, List.set_cons_zero, List.set_cons_succ, Option.some.injEq, D.bl.injEq, D.int.injEq, D.tup.injEq, exists_eq_left', exists_eq_left, exists_and_left, true_and, and_true, Nat.reduceAdd, Nat.reduceSub, Nat.zero_add, if_true, if_false, Bool.false_eq_true, reduceCtorEq, decide_eq_true_eq, Nat.reduceEqDiff, v_range1 (j := 1 + r) (show -(2 ^ 62) ≤ 1 + r ∧ 1 + r < 2 ^ 62 by omega)]
  have z : 0 ≤ sizeLine := by unfold sizeLine; omega
  refine ⟨z, ?_⟩
  have hlr : (rngD 0 (1 + r).toNat).length = (1 + r).toNat := by unfold rngD; simp
  refine for_inv (J := fun a b en s => NetJ j s1.length st (1 + r) [some (.ref j), some (.int 7), some (.int 14), some (.int (1 + r))] a.length a.length en s ∧ en.length = 7)
    ⟨⟨[], _, rfl, ⟨w1.trans .app, w1.le, by simp, fun p hp => nomatch hp⟩, by simp, fun q h1 h2 => by simp at h2; omega⟩, rfl⟩ (fun _ _ _ _ _ => stays_nil) (fun a dd b en s e ⟨⟨ps, e2, ee, G, hl, ha⟩, hen⟩ => ?_) (fun en s ⟨⟨ps, e2, ee, G, hl, ha⟩, hen⟩ => ?_)
  · subst ee
    obtain ⟨rfl, hlt⟩ := rng_split e
    obtain ⟨x, y, rfl⟩ : ∃ x y, e2 = [x, y] := by
      match e2, hen with
      | [x, y], _ => exact ⟨x, y, rfl⟩
    simp only [m_fn, s_seq, s_if, s_ret, s_asg, s_expr, s_nx, s_bk, s_ct, s_par, s_raise, s_for, g_name, m_op, m_un, m_then, m_callb, m_var, m_c, m_call, m_callk, m_cons, m_nil, m_tup, m_lst, m_new, m_te, m_tand, m_tor, m_tnot, m_if, m_and, m_or, m_comp, v_add, v_sub, v_neg, v_lt, v_le, v_gt, v_ge, v_mod, v_fdiv, v_mul, v_int, v_abs, v_max, v_min, v_isN, v_notN, v_isB, v_not, v_len_t, v_eq_i, v_ne_i, v_eq_b, v_ix_t, wp_pure, wp_ite, List.map_cons, List.map_nil, List.length_cons, List.length_nil, List.replicate, List.append_nil, List.nil_append, List.cons_append, List.getElem?_cons_zero, List.getElem?_cons_succ, List.getElem?_nil, List.set_cons_zero, List.set_cons_succ, Option.some.injEq, D.bl.injEq, D.int.injEq, D.tup.injEq, exists_eq_left', exists_eq_left, exists_and_left, true_and, and_true, Nat.reduceAdd, Nat.reduceSub, Nat.zero_add, if_true, if_false, Bool.false_eq_true, reduceCtorEq, decide_eq_true_eq, Nat.reduceEqDiff, m_app]
    refine ⟨tyL G.at_, ?_⟩
    refine sp_goal (G.w.box hb) (by omega) (by omega) ⟨by omega, by omega⟩ fun g s2 g0 g1 g2 w2 => ?_
    have G2 := G.step hj w2
    refine ⟨by unfold sizeLine; omega, ?_⟩
    have e3 := v_app (Q := fun _ s => NetJ j s1.length st (1 + r) [some (.ref j), some (.int 7), some (.int 14), some (.int (1 + r))] (a.length + 1) (a.length + 1) [some (.ref j), some (.int 7), some (.int 14), some (.int (1 + r)), some (.ref s1.length), some (.int a.length), y] s) (E := E) (d := pD ((a.length : Int), g)) G2.at_ (szL (by rw [List.length_map]; omega))
    rw [List.length_append, List.length_singleton]
    refine e3.mpr ?_
    exact NetJ.more (l := [((a.length : Int), g)]) (G2.push hj ⟨⟨by omega, by show (a.length : Int) < 1 + r; omega⟩, ⟨g0, g1⟩, fun z => g2 z.symm⟩) rfl (by simp; omega) ha (.inr ⟨rfl, _, List.mem_singleton.mpr rfl, rfl⟩)
  · subst ee
    obtain ⟨x, y, rfl⟩ : ∃ x y, e2 = [x, y] := by
      match e2, hen with
      | [x, y], _ => exact ⟨x, y, rfl⟩
    simp only [m_fn, s_seq, s_if, s_ret, s_asg, s_expr, s_nx, s_bk, s_ct, s_par, s_raise, s_for, g_name, m_op, m_un, m_then, m_callb, m_var, m_c, m_call, m_callk, m_cons, m_nil, m_tup, m_lst, m_new, m_te, m_tand, m_tor, m_tnot, m_if, m_and, m_or, m_comp, v_add, v_sub, v_neg, v_lt, v_le, v_gt, v_ge, v_mod, v_fdiv, v_mul, v_int, v_abs, v_max, v_min, v_isN, v_notN, v_isB, v_not, v_len_t, v_eq_i, v_ne_i, v_eq_b, v_ix_t, wp_pure, wp_ite, List.map_cons, List.map_nil, List.length_cons, List.length_nil, List.replicate, List.append_nil, List.nil_append, List.cons_append, List.getElem?_cons_zero, List.getElem?_cons_succ, List.getElem?_nil, List.set_cons_zero, List.set_cons_succ, Option.some.injEq, D.bl.injEq, D.int.injEq, D.tup.injEq, exists_eq_left', exists_eq_left, exists_and_left, true_and, and_true, Nat.reduceAdd, Nat.reduceSub, Nat.zero_add, if_true, if_false, Bool.false_eq_true, reduceCtorEq, decide_eq_true_eq, Nat.reduceEqDiff]
    rw [hlr] at hl ha
    rw [show (if 14 + 1 - (1 + r) > 1 then 14 + 1 - (1 + r) else 1) = 14 - r by rw [if_pos (by omega)]; omega]
    refine sp_take (G.w.box hb) (by omega) (by omega) fun c s2 c0 c1 w2 => ?_
    have G2 := G.step hj w2
    simp only [m_fn, s_seq, s_if, s_ret, s_asg, s_expr, s_nx, s_bk, s_ct, s_par, s_raise, s_for, g_name, m_op, m_un, m_then, m_callb, m_var, m_c, m_call, m_callk, m_cons, m_nil, m_tup, m_lst, m_new, m_te, m_tand, m_tor, m_tnot, m_if, m_and, m_or, m_comp, v_add, v_sub, v_neg, v_lt, v_le, v_gt, v_ge, v_mod, v_fdiv, v_mul, v_int, v_abs, v_max, v_min, v_isN, v_notN, v_isB, v_not, v_len_t, v_eq_i, v_ne_i, v_eq_b, v_ix_t, wp_pure, wp_ite, List.map_cons, List.map_nil, List.length_cons, List.length_nil, List.replicate, List.append_nil, List.nil_append, List.cons_append, List.getElem?_cons_zero, List.getElem?_cons_succ, List.getElem?_nil, List.set_cons_zero, List.set_cons_succ, Option.some.injEq, D.bl.injEq, D.int.injEq, D.tup.injEq, exists_eq_left', exists_eq_left, exists_and_left, true_and, and_true, Nat.reduceAdd, Nat.reduceSub, Nat.zero_add, if_true, if_false, Bool.false_eq_true, reduceCtorEq, decide_eq_true_eq, Nat.reduceEqDiff, v_range1 (j := c) (show -(2 ^ 62) ≤ c ∧ c < 2 ^ 62 by omega)]
    have hlc : (rngD 0 c.toNat).length = c.toNat := by unfold rngD; simp
    refine for_inv (J := fun a b en s => NetJ j s1.length st (1 + r) [some (.ref j), some (.int 7), some (.int 14), some (.int (1 + r))] (1 + r).toNat ((1 + r).toNat + a.length) en s ∧ en.length = 7)
      ⟨⟨ps, _, rfl, G2, by simpa using hl, ha⟩, rfl⟩ (fun _ _ _ _ _ => stays_nil) (fun a dd b en s e ⟨⟨ps, e2, ee, G, hl, ha⟩, hen⟩ => ?_) (fun en s ⟨⟨ps, e2, ee, G, hl, ha⟩, hen⟩ => ?_)
    · subst ee
      obtain ⟨rfl, hlt⟩ := rng_split e
      obtain ⟨x, y, rfl⟩ : ∃ x y, e2 = [x, y] := by
        match e2, hen with
        | [x, y], _ => exact ⟨x, y, rfl⟩
      simp only [m_fn, s_seq, s_if, s_ret, s_asg, s_expr, s_nx, s_bk, s_ct, s_par, s_raise, s_for, g_name, m_op, m_un, m_then, m_callb, m_var, m_c, m_call, m_callk, m_cons, m_nil, m_tup, m_lst, m_new, m_te, m_tand, m_tor, m_tnot, m_if, m_and, m_or, m_comp, v_add, v_sub, v_neg, v_lt, v_le, v_gt, v_ge, v_mod, v_fdiv, v_mul, v_int, v_abs, v_max, v_min, v_isN, v_notN, v_isB, v_not, v_len_t, v_eq_i, v_ne_i, v_eq_b, v_ix_t, wp_pure, wp_ite, List.map_cons, List.map_nil, List.length_cons, List.length_nil, List.replicate, List.append_nil, List.nil_append, List.cons_append, List.getElem?_cons_zero, List.getElem?_cons_succ, List.getElem?_nil, List.set_cons_zero, List.set_cons_succ, Option.some.injEq, D.bl.injEq, D.int.injEq, D.tup.injEq, exists_eq_left', exists_eq_left, exists_and_left, true_and, and_true, Nat.reduceAdd, Nat.reduceSub, Nat.zero_add, if_true, if_false, Bool.false_eq_true, reduceCtorEq, decide_eq_true_eq, Nat.reduceEqDiff, m_app]
      refine sp_take (G.w.box hb) (by omega) (by omega) fun p s3 p0 p1 w3 => ?_
      have G3 := G.step hj w3
      refine ⟨tyL G3.at_, ?_⟩
      refine sp_goal (G3.w.box hb) (by omega) (by omega) ⟨p0, p1⟩ fun g s4 g0 g1 g2 w4 => ?_
      have G4 := G3.step hj w4
      refine ⟨by unfold sizeLine; omega, ?_⟩
      rw [List.length_append, List.length_singleton]
      refine (v_app (d := pD (p, g)) G4.at_ (szL (by rw [List.length_map]; omega))).mpr ?_
      exact NetJ.more (l := [(p, g)]) (G4.push hj ⟨⟨p0, p1⟩, ⟨g0, g1⟩, fun z => g2 z.symm⟩) rfl (by simp; omega) ha (.inl (Nat.le_refl _))
    · subst ee
      obtain ⟨x, y, rfl⟩ : ∃ x y, e2 = [x, y] := by
        match e2, hen with
        | [x, y], _ => exact ⟨x, y, rfl⟩
      simp only [m_fn, s_seq, s_if, s_ret, s_asg, s_expr, s_nx, s_bk, s_ct, s_par, s_raise, s_for, g_name, m_op, m_un, m_then, m_callb, m_var, m_c, m_call, m_callk, m_cons, m_nil, m_tup, m_lst, m_new, m_te, m_tand, m_tor, m_tnot, m_if, m_and, m_or, m_comp, v_add, v_sub, v_neg, v_lt, v_le, v_gt, v_ge, v_mod, v_fdiv, v_mul, v_int, v_abs, v_max, v_min, v_isN, v_notN, v_isB, v_not, v_len_t, v_eq_i, v_ne_i, v_eq_b, v_ix_t, wp_pure, wp_ite, List.map_cons, List.map_nil, List.length_cons, List.length_nil, List.replicate, List.append_nil, List.nil_append, List.cons_append, List.getElem?_cons_zero, List.getElem?_cons_succ, List.getElem?_nil, List.set_cons_zero, List.set_cons_succ, Option.some.injEq, D.bl.injEq, D.int.injEq, D.tup.injEq, exists_eq_left', exists_eq_left, exists_and_left, true_and, and_true, Nat.reduceAdd, Nat.reduceSub, Nat.zero_add, if_true, if_false, Bool.false_eq_true, reduceCtorEq, decide_eq_true_eq, Nat.reduceEqDiff, v_sortV, v_items_l G.at_, v_tupT]
      rw [v_sort_p]
      refine ⟨by unfold sizeLine; omega, ?_⟩
      exact k (1 + r) (srtP ps) s (good_end (by omega) (by omega) G.ok (by rw [hlc] at hl; omega) (fun q h1 h2 => ha q h1 (by omega))) G.w
theorem Grown.cat {i : Nat} {s : Sto} {many : Int} {ps qs : List PR} (h : Grown j i st s many ps) (hj : j < st.length) (hp : ∀ q ∈ qs, wayOk many q) {l : Sto} : Grown j (s ++ l).length st ((s ++ l) ++ [.lst (ps.map pD ++ qs.map pD)]) many (ps ++ qs) := by
  refine ⟨(h.w.trans .app).trans .app, Nat.le_trans h.w.le (by simp), ?_, fun q hq => ?_⟩
  · rw [List.getElem?_append_right (Nat.le_refl _), List.map_append]
    simp
  · rcases List.mem_append.mp hq with hq | hq
    · exact h.ok q hq
    · exact hp q hq
/-- the loops of a mutual net -/
def MutJ (j : Nat) (st : Sto) (many : Int) (n c : Nat) (en : En) (s : Sto) : Prop := ∃ (i : Nat) (ps : List PR) (e : En), en = [some (.ref j), some (.int 5), some (.int 14), some (.int many), some (.ref i)] ++ e ∧ e.length = 5 ∧ Grown j i st s many ps ∧ ps.length ≤ c ∧ ∀ q : Int, 0 ≤ q → q < n → ∃ p ∈ ps, p.1 = q
theorem MutJ.more {i : Nat} {s : Sto} {many : Int} {n c n' : Nat} {en : En} {ps : List PR} {e : En} {l : List PR} (G : Grown j i st s many (ps ++ l)) (he : en = [some (.ref j), some (.int 5), some (.int 14), some (.int many), some (.ref i)] ++ e) (h5 : e.length = 5) (hc : (ps ++ l).length ≤ c) (ha : ∀ q : Int, 0 ≤ q → q < n → ∃ p ∈ ps, p.1 = q)
    (hn : n' ≤ n ∨ (n' = n + 1 ∧ ∃ p ∈ l, p.1 = (n : Int))) : MutJ j st many n' c en s := by
  refine ⟨i, ps ++ l, e, he, h5, G, hc, fun q h1 h2 => ?_⟩
  by_cases c : q < n
  · obtain ⟨p, hp, e⟩ := ha q h1 c
    exact ⟨p, List.mem_append_left _ hp, e⟩
  · rcases hn with hn | ⟨hn, p, hp, e⟩
    · omega
    · exact ⟨p, List.mem_append_right _ hp, by omega⟩
theorem len5 {e : En} (h : e.length = 5) : ∃ a b c d f, e = [a, b, c, d, f] := by
  match e, h with
  | [a, b, c, d, f], _ => exact ⟨a, b, c, d, f, rfl⟩
theorem sp_mutual (hb : Box st j) (k : ∀ (many : Int) (ps : List PR) (s' : Sto), Good many ps → Wk j st s' → Q (netD many ps) s') : (g__law_mutual [.ref j, .int 5, .int 14] st).Wp Q E := by
  have hj := hb.lt
  unfold g__law_mutual b__law_mutual_
  simp only [m_fn, s_seq, s_if, s_ret, s_asg, s_expr, s_nx, s_bk, s_ct, s_par, s_raise, s_for, g_name, m_op, m_un, m_then, m_callb, m_var, m_c, m_call, m_callk, m_cons, m_nil, m_tup, m_lst, m_new, m_te, m_tand, m_tor, m_tnot, m_if, m_and, m_or, m_comp, v_add, v_sub, v_neg, v_lt, v_le, v_gt, v_ge, v_mod, v_fdiv, v_mul, v_int, v_abs, v_max, v_min, v_isN, v_notN, v_isB, v_not, v_len_t, v_eq_i, v_ne_i, v_eq_b, v_ix_t, wp_pure, wp_ite, List.map_cons, List.map_nil, List.length_cons, List.length_nil, List.replicate, List.append_nil, List.nil_append, List.cons_append, List.getElem?_cons_zero, List.getElem?_cons_succ, List.getElem?_nil, List.set_cons_zero, List.set_cons_succ, Option.some.injEq, D.bl.injEq, D.int.injEq, D.tup.injEq, exists_eq_left', exists_eq_left, exists_and_left, true_and, and_true, Nat.reduceAdd, Nat.reduceSub, Nat.zero_add, if_true, if_false, Bool.false_eq_true, reduceCtorEq, decide_eq_true_eq, Nat.reduceEqDiff]
  refine sp_take hb (by decide) (by decide) fun r s1 r0 r1 w1 => ?_
  simp only [m_fn, s_seq, s_if, s_ret, s_asg, s_expr, s_nx, s_bk, s_ct, s_par, s_raise, s_for, g_name, m_op, m_un, m_then, m_callb, m_var, m_c, m_call, m_callk, m_cons, m_nil, m_tup, m_lst, m_new, m_te, m_tand, m_tor, m_tnot, m_if, m_and, m_or, m_comp, v_add, v_sub, v_neg, v_lt, v_le, v_gt, v_ge, v_mod, v_fdiv, v_mul, v_int, v_abs, v_max, v_min, v_isN, v_notN, v_isB, v_not, v_len_t, v_eq_i, v_ne_i, v_eq_b, v_ix_t, wp_pure, wp_ite, List.map_cons, List.map_nil, List.length_cons, List.length_nil, List.replicate, List.append_nil, List.nil_append, List.cons_append, List.getElem?_cons_zero, List.getElem?_cons_succ, List.getElem?_nil, List.set_cons_zero, List.set_cons_succ, Option.some.injEq, D.bl.injEq, D.int.injEq, D.tup.injEq, exists_eq_left', exists_eq_left, exists_and_left, true_and, and_true, Nat.reduceAdd, Nat.reduceSub, Nat.zero_add, if_true, if_false, Bool.false_eq_true, reduceCtorEq, decide_eq_true_eq, Nat.reduceEqDiff, v_range1 (j := 1 + r) (show -(2 ^ 62) ≤ 1 + r ∧ 1 + r < 2 ^ 62 by omega)]
  refine ⟨by unfold sizeLine; omega, ?_⟩
  have hlr : (rngD 0 (1 + r).toNat).length = (1 + r).toNat := by unfold rngD; simp
  refine for_inv (J := fun a b en s => MutJ j st (1 + r) a.length (2 * a.length) en s)
    ⟨s1.length, [], _, rfl, rfl, ⟨w1.trans .app, w1.le, by simp, fun p hp => nomatch hp⟩, by simp, fun q h1 h2 => by simp at h2; omega⟩ (fun _ _ _ _ _ => stays_nil) (fun a dd b en s e ⟨i, ps, e2, ee, h5, G, hl, ha⟩ => ?_) (fun en s ⟨i, ps, e2, ee, h5, G, hl, ha⟩ => ?_)
  · subst ee
    obtain ⟨rfl, hlt⟩ := rng_split e
    obtain ⟨x1, x2, x3, x4, x5, rfl⟩ := len5 h5
    simp only [m_fn, s_seq, s_if, s_ret, s_asg, s_expr, s_nx, s_bk, s_ct, s_par, s_raise, s_for, g_name, m_op, m_un, m_then, m_callb, m_var, m_c, m_call, m_callk, m_cons, m_nil, m_tup, m_lst, m_new, m_te, m_tand, m_tor, m_tnot, m_if, m_and, m_or, m_comp, v_add, v_sub, v_neg, v_lt, v_le, v_gt, v_ge, v_mod, v_fdiv, v_mul, v_int, v_abs, v_max, v_min, v_isN, v_notN, v_isB, v_not, v_len_t, v_eq_i, v_ne_i, v_eq_b, v_ix_t, wp_pure, wp_ite, List.map_cons, List.map_nil, List.length_cons, List.length_nil, List.replicate, List.append_nil, List.nil_append, List.cons_append, List.getElem?_cons_zero, List.getElem?_cons_succ, List.getElem?_nil, List.set_cons_zero, List.set_cons_succ, Option.some.injEq, D.bl.injEq, D.int.injEq, D.tup.injEq, exists_eq_left', exists_eq_left, exists_and_left, true_and, and_true, Nat.reduceAdd, Nat.reduceSub, Nat.zero_add, if_true, if_false, Bool.false_eq_true, reduceCtorEq, decide_eq_true_eq, Nat.reduceEqDiff]
    refine sp_take (G.w.box hb) (by omega) (by omega) fun g s2 g0 g1 w2 => ?_
    have G2 := G.step hj w2
    simp only [m_fn, s_seq, s_if, s_ret, s_asg, s_expr, s_nx, s_bk, s_ct, s_par, s_raise, s_for, g_name, m_op, m_un, m_then, m_callb, m_var, m_c, m_call, m_callk, m_cons, m_nil, m_tup, m_lst, m_new, m_te, m_tand, m_tor, m_tnot, m_if, m_and, m_or, m_comp, v_add, v_sub, v_neg, v_lt, v_le, v_gt, v_ge, v_mod, v_fdiv, v_mul, v_int, v_abs, v_max, v_min, v_isN, v_notN, v_isB, v_not, v_len_t, v_eq_i, v_ne_i, v_eq_b, v_ix_t, wp_pure, wp_ite, List.map_cons, List.map_nil, List.length_cons, List.length_nil, List.replicate, List.append_nil, List.nil_append, List.cons_append, List.getElem?_cons_zero, List.getElem?_cons_succ, List.getElem?_nil, List.set_cons_zero, List.set_cons_succ, Option.some.injEq, D.bl.injEq, D.int.injEq, D.tup.injEq, exists_eq_left', exists_eq_left, exists_and_left, true_and, and_true, Nat.reduceAdd, Nat.reduceSub, Nat.zero_add, if_true, if_false, Bool.false_eq_true, reduceCtorEq, decide_eq_true_eq, Nat.reduceEqDiff, m_app]
    by_cases cg : g = a.length
    · rw [if_pos cg]
      refine ⟨tyL G2.at_, by unfold sizeLine; omega, ?_⟩
      refine (v_app (d := pD ((a.length : Int), 1 + r)) G2.at_ (szL (by rw [List.length_map]; omega))).mpr ?_
      refine MutJ.more (l := [((a.length : Int), 1 + r)]) (G2.push hj ⟨⟨by omega, by show (a.length : Int) < 1 + r; omega⟩, ⟨by show (0 : Int) ≤ 1 + r; omega, Int.le_refl _⟩, by show (a.length : Int) ≠ 1 + r; omega⟩) rfl rfl (by simp; omega) ha (.inr ⟨by simp, _, List.mem_singleton.mpr rfl, rfl⟩)
    · rw [if_neg cg]
      have at2 : (s2 ++ [Ob.lst [D.tup [.int a.length, .int g], D.tup [.int g, .int a.length]]])[i]? = some (.lst (ps.map pD)) := by
        rw [List.getElem?_append_left (List.getElem?_eq_some_iff.mp G2.at_).1]; exact G2.at_
      refine ⟨by unfold sizeLine; omega, by unfold sizeLine; omega, by unfold sizeLine; omega, ?_⟩
      have hq : ∀ q ∈ [((a.length : Int), g), (g, (a.length : Int))], wayOk (1 + r) q := fun q hq => by
        rcases List.mem_cons.mp hq with rfl | hq
        · exact ⟨⟨by omega, by show (a.length : Int) < 1 + r; omega⟩, ⟨g0, by show g ≤ 1 + r; omega⟩, by show (a.length : Int) ≠ g; omega⟩
        · rw [List.mem_singleton.mp hq]
          exact ⟨⟨g0, by show g < 1 + r; omega⟩, ⟨by omega, by show (a.length : Int) ≤ 1 + r; omega⟩, by show g ≠ (a.length : Int); omega⟩
      have at3 : (s2 ++ [Ob.lst [D.tup [.int a.length, .int g], D.tup [.int g, .int a.length]]])[s2.length]? = some (.lst [D.tup [.int a.length, .int g], D.tup [.int g, .int a.length]]) := by simp
      refine (v_cat (a := ps.map pD) (b := [D.tup [.int a.length, .int g], D.tup [.int g, .int a.length]]) at2 at3 (by rw [List.length_map]; unfold sizeLine; simp; omega)).mpr ?_
      have GG := G2.cat hj hq (l := [Ob.lst [D.tup [.int a.length, .int g], D.tup [.int g, .int a.length]]])
      exact MutJ.more (l := [((a.length : Int), g), (g, (a.length : Int))]) GG rfl rfl (by simp; omega) ha (.inr ⟨by simp, _, List.mem_cons_self .., rfl⟩)
  · subst ee
    obtain ⟨x1, x2, x3, x4, x5, rfl⟩ := len5 h5
    simp only [m_fn, s_seq, s_if, s_ret, s_asg, s_expr, s_nx, s_bk, s_ct, s_par, s_raise, s_for, g_name, m_op, m_un, m_then, m_callb, m_var, m_c, m_call, m_callk, m_cons, m_nil, m_tup, m_lst, m_new, m_te, m_tand, m_tor, m_tnot, m_if, m_and, m_or, m_comp, v_add, v_sub, v_neg, v_lt, v_le, v_gt, v_ge, v_mod, v_fdiv, v_mul, v_int, v_abs, v_max, v_min, v_isN, v_notN, v_isB, v_not, v_len_t, v_eq_i, v_ne_i, v_eq_b, v_ix_t, wp_pure, wp_ite, List.map_cons, List.map_nil, List.length_cons, List.length_nil, List.replicate, List.append_nil, List.nil_append, List.cons_append, List.getElem?_cons_zero, List.getElem?_cons_succ, List.getElem?_nil, List.set_cons_zero, List.set_cons_succ, Option.some.injEq, D.bl.injEq, D.int.injEq, D.tup.injEq, exists_eq_left', exists_eq_left, exists_and_left, true_and, and_true, Nat.reduceAdd, Nat.reduceSub, Nat.zero_add, if_true, if_false, Bool.false_eq_true, reduceCtorEq, decide_eq_true_eq, Nat.reduceEqDiff, v_range1 (j := 6) (by decide)]
    rw [hlr] at hl ha
    refine for_inv (J := fun a b en s => MutJ j st (1 + r) (1 + r).toNat 14 en s)
      ⟨i, ps, _, rfl, rfl, G, by omega, ha⟩ (fun _ _ _ _ _ => stays_nil) (fun a dd b en s e ⟨i, ps, e2, ee, h5, G, hl, ha⟩ => ?_) (fun en s ⟨i, ps, e2, ee, h5, G, hl, ha⟩ => ?_)
    · subst ee
      obtain ⟨rfl, hlt⟩ := rng_split e
      obtain ⟨x1, x2, x3, x4, x5, rfl⟩ := len5 h5
      have same : ∀ {s' : Sto} {y1 y2 y3 y4 y5 : Option D}, Grown j i st s' (1 + r) ps → MutJ j st (1 + r) (1 + r).toNat 14 [some (.ref j), some (.int 5), some (.int 14), some (.int (1 + r)), some (.ref i), y1, y2, y3, y4, y5] s' := fun G => ⟨i, ps, _, rfl, rfl, G, hl, ha⟩
      simp only [m_fn, s_seq, s_if, s_ret, s_asg, s_expr, s_nx, s_bk, s_ct, s_par, s_raise, s_for, g_name, m_op, m_un, m_then, m_callb, m_var, m_c, m_call, m_callk, m_cons, m_nil, m_tup, m_lst, m_new, m_te, m_tand, m_tor, m_tnot, m_if, m_and, m_or, m_comp, v_add, v_sub, v_neg, v_lt, v_le, v_gt, v_ge, v_mod, v_fdiv, v_mul, v_int, v_abs, v_max, v_min, v_isN, v_notN, v_isB, v_not, v_len_t, v_eq_i, v_ne_i, v_eq_b, v_ix_t, wp_pure, wp_ite, List.map_cons, List.map_nil, List.length_cons, List.length_nil, List.replicate, List.append_nil, List.nil_append, List.cons_append, List.getElem?_cons_zero, List.getElem?_cons_succ, List.getElem?_nil, List.set_cons_zero, List.set_cons_succ, Option.some.injEq, D.bl.injEq, D.int.injEq, D.tup.injEq, exists_eq_left', exists_eq_left, exists_and_left, true_and, and_true, Nat.reduceAdd, Nat.reduceSub, Nat.zero_add, if_true, if_false, Bool.false_eq_true, reduceCtorEq, decide_eq_true_eq, Nat.reduceEqDiff]
      refine sp_take (G.w.box hb) (by omega) (by omega) fun one s2 o0 o1 w2 => ?_
      have G2 := G.step hj w2
      refine sp_take (G2.w.box hb) (by omega) (by omega) fun two s3 t0 t1 w3 => ?_
      have G3 := G2.step hj w3
      refine ⟨_, _, rfl, ?_⟩
      simp only [m_fn, s_seq, s_if, s_ret, s_asg, s_expr, s_nx, s_bk, s_ct, s_par, s_raise, s_for, g_name, m_op, m_un, m_then, m_callb, m_var, m_c, m_call, m_callk, m_cons, m_nil, m_tup, m_lst, m_new, m_te, m_tand, m_tor, m_tnot, m_if, m_and, m_or, m_comp, v_add, v_sub, v_neg, v_lt, v_le, v_gt, v_ge, v_mod, v_fdiv, v_mul, v_int, v_abs, v_max, v_min, v_isN, v_notN, v_isB, v_not, v_len_t, v_eq_i, v_ne_i, v_eq_b, v_ix_t, wp_pure, wp_ite, List.map_cons, List.map_nil, List.length_cons, List.length_nil, List.replicate, List.append_nil, List.nil_append, List.cons_append, List.getElem?_cons_zero, List.getElem?_cons_succ, List.getElem?_nil, List.set_cons_zero, List.set_cons_succ, Option.some.injEq, D.bl.injEq, D.int.injEq, D.tup.injEq, exists_eq_left', exists_eq_left, exists_and_left, true_and, and_true, Nat.reduceAdd, Nat.reduceSub, Nat.zero_add, if_true, if_false, Bool.false_eq_true, reduceCtorEq, decide_eq_true_eq, Nat.reduceEqDiff, v_len_l G3.at_, m_app]
      rw [List.length_map]
      split
      · rename_i c1
        split
        · rename_i c2
          refine ⟨tyL G3.at_, by unfold sizeLine; omega, ?_⟩
          refine (v_app (d := pD (one, 1 + r)) G3.at_ (szL (by rw [List.length_map]; omega))).mpr ?_
          exact MutJ.more (l := [(one, 1 + r)]) (G3.push hj ⟨⟨o0, o1⟩, ⟨by show (0 : Int) ≤ 1 + r; omega, Int.le_refl _⟩, by show one ≠ 1 + r; omega⟩) rfl rfl (by simp; omega) ha (.inl (Nat.le_refl _))
        · split
          · split
            · exact absurd c1 (by omega)
            · exact same G3
          · exact same G3
      · rename_i c1
        split
        · rename_i c2
          simp only [Bool.not_eq_true', decide_eq_false_iff_not] at c2
          split
          · rename_i c3
            split
            · rename_i c4
              refine sp_take (G3.w.box hb) (by omega) (by omega) fun z s4 z0 z1 w4 => ?_
              have G4 := G3.step hj w4
              simp only [m_fn, s_seq, s_if, s_ret, s_asg, s_expr, s_nx, s_bk, s_ct, s_par, s_raise, s_for, g_name, m_op, m_un, m_then, m_callb, m_var, m_c, m_call, m_callk, m_cons, m_nil, m_tup, m_lst, m_new, m_te, m_tand, m_tor, m_tnot, m_if, m_and, m_or, m_comp, v_add, v_sub, v_neg, v_lt, v_le, v_gt, v_ge, v_mod, v_fdiv, v_mul, v_int, v_abs, v_max, v_min, v_isN, v_notN, v_isB, v_not, v_len_t, v_eq_i, v_ne_i, v_eq_b, v_ix_t, wp_pure, wp_ite, List.map_cons, List.map_nil, List.length_cons, List.length_nil, List.replicate, List.append_nil, List.nil_append, List.cons_append, List.getElem?_cons_zero, List.getElem?_cons_succ, List.getElem?_nil, List.set_cons_zero, List.set_cons_succ, Option.some.injEq, D.bl.injEq, D.int.injEq, D.tup.injEq, exists_eq_left', exists_eq_left, exists_and_left, true_and, and_true, Nat.reduceAdd, Nat.reduceSub, Nat.zero_add, if_true, if_false, Bool.false_eq_true, reduceCtorEq, decide_eq_true_eq, Nat.reduceEqDiff]
              split
              · have at2 : (s4 ++ [Ob.lst [D.tup [.int one, .int two], D.tup [.int two, .int one]]])[i]? = some (.lst (ps.map pD)) := by
                  rw [List.getElem?_append_left (List.getElem?_eq_some_iff.mp G4.at_).1]; exact G4.at_
                have at3 : (s4 ++ [Ob.lst [D.tup [.int one, .int two], D.tup [.int two, .int one]]])[s4.length]? = some (.lst [D.tup [.int one, .int two], D.tup [.int two, .int one]]) := by simp
                have hq : ∀ q ∈ [(one, two), (two, one)], wayOk (1 + r) q := fun q hq => by
                  rcases List.mem_cons.mp hq with rfl | hq
                  · exact ⟨⟨o0, o1⟩, ⟨t0, by show two ≤ 1 + r; omega⟩, by show one ≠ two; omega⟩
                  · rw [List.mem_singleton.mp hq]
                    exact ⟨⟨t0, c3⟩, ⟨o0, by show one ≤ 1 + r; omega⟩, c2⟩
                refine ⟨by unfold sizeLine; omega, by unfold sizeLine; omega, by unfold sizeLine; omega, ?_⟩
                refine (v_cat (a := ps.map pD) (b := [D.tup [.int one, .int two], D.tup [.int two, .int one]]) at2 at3 (by rw [List.length_map]; unfold sizeLine; simp; omega)).mpr ?_
                exact MutJ.more (l := [(one, two), (two, one)]) (G4.cat hj hq (l := [Ob.lst [D.tup [.int one, .int two], D.tup [.int two, .int one]]])) rfl rfl (by simp; omega) ha (.inl (Nat.le_refl _))
              · exact same G4
            · exact same G3
          · exact same G3
        · exact same G3
    · subst ee
      obtain ⟨x1, x2, x3, x4, x5, rfl⟩ := len5 h5
      simp only [m_fn, s_seq, s_if, s_ret, s_asg, s_expr, s_nx, s_bk, s_ct, s_par, s_raise, s_for, g_name, m_op, m_un, m_then, m_callb, m_var, m_c, m_call, m_callk, m_cons, m_nil, m_tup, m_lst, m_new, m_te, m_tand, m_tor, m_tnot, m_if, m_and, m_or, m_comp, v_add, v_sub, v_neg, v_lt, v_le, v_gt, v_ge, v_mod, v_fdiv, v_mul, v_int, v_abs, v_max, v_min, v_isN, v_notN, v_isB, v_not, v_len_t, v_eq_i, v_ne_i, v_eq_b, v_ix_t, wp_pure, wp_ite, List.map_cons, List.map_nil, List.length_cons, List.length_nil, List.replicate, List.append_nil, List.nil_append, List.cons_append, List.getElem?_cons_zero, List.getElem?_cons_succ, List.getElem?_nil, List.set_cons_zero, List.set_cons_succ, Option.some.injEq, D.bl.injEq, D.int.injEq, D.tup.injEq, exists_eq_left', exists_eq_left, exists_and_left, true_and, and_true, Nat.reduceAdd, Nat.reduceSub, Nat.zero_add, if_true, if_false, Bool.false_eq_true, reduceCtorEq, decide_eq_true_eq, Nat.reduceEqDiff, v_sortV, v_items_l G.at_, v_tupT]
      rw [v_sort_p]
      refine ⟨by unfold sizeLine; omega, ?_⟩
      exact k (1 + r) (srtP ps) s (good_end (by omega) (by omega) G.ok hl (fun q h1 h2 => ha q h1 (by omega))) G.w
end
end K78
end part_P78g
section part_P78h
set_option maxHeartbeats 1000000
namespace Mir
open PySem L2
section
variable {Q : D → Sto → Prop} {QL : List D → Sto → Prop} {E : Exn → Sto → Prop} {st : Sto} {en : En}
theorem v_cat_t {a b : List D} : (gAdd (.tup a) (.tup b) st).Wp Q E ↔ a.length + b.length ≤ sizeLine ∧ Q (.tup (a ++ b)) st := by
  show ((within (a.length + b.length) >>= fun _ => pure (D.tup (a ++ b))) st).Wp Q E ↔ _
  rw [wp_bind, wp_within]
  exact Iff.rfl
theorem v_rep {i : Nat} {k : Int} {a : List D} (h : st[i]? = some (.lst a)) (hk : -(2 ^ 63) ≤ k ∧ k < 2 ^ 63 ∧ a.length * k.toNat ≤ sizeLine) : (gMul (.ref i) (.int k) st).Wp Q E ↔ Q (.ref st.length) (st ++ [.lst (List.replicate k.toNat a).flatten]) := by
  show (gRep i k st).Wp Q E ↔ _
  unfold gRep
  rw [h]
  dsimp only
  rw [if_pos hk]
  exact Iff.rfl
theorem m_sl {F : En → M D} {L U : En → M (Option Int)} : (fSl F L U en st).Wp Q E ↔ (F en st).Wp (fun a s1 => (L en s1).Wp (fun lo s2 => (U en s2).Wp (fun hi s3 => (gSl a lo hi s3).Wp Q E) E) E) E := by
  unfold fSl
  rw [wp_bind]
  simp only [wp_bind]
theorem m_onone {QO : Option Int → Sto → Prop} : (oNone en st).Wp QO E ↔ QO none st := Iff.rfl
theorem m_osome {F : En → M D} {QO : Option Int → Sto → Prop} : (oSome F en st).Wp QO E ↔ (F en st).Wp (fun d s1 => ∃ i : Int, d = .int i ∧ QO (some i) s1) E := by
  unfold oSome
  rw [wp_bind]
  constructor
  · intro h
    refine wp_mono h (fun d s1 q => ?_) fun _ _ z => z
    split at q
    · exact ⟨_, rfl, q⟩
    · exact q.elim
  · intro h
    refine wp_mono h (fun d s1 ⟨i, e, q⟩ => ?_) fun _ _ z => z
    subst e
    exact q
theorem v_sl_t {xs : List D} {lo hi : Option Int} : (gSl (.tup xs) lo hi st).Wp Q E ↔ Q (.tup (cutD xs lo hi)) st := Iff.rfl
theorem v_revT {xs : List D} : (gRevT (.tup xs) st).Wp Q E ↔ Q (.tup xs.reverse) st := Iff.rfl
theorem mem_cutD {xs : List D} {lo hi : Option Int} {x : D} (h : x ∈ cutD xs lo hi) : x ∈ xs := List.mem_of_mem_drop (List.mem_of_mem_take h)
theorem len_cutD {xs : List D} {lo hi : Option Int} : (cutD xs lo hi).length ≤ xs.length := by
  unfold cutD
  rw [List.length_take, List.length_drop]
  omega
theorem dataGe_pD {st : Sto} (p q : PR) : PySem.W.dataLe true (encD st) (pD p) (pD q) = leP q p := (show PySem.W.dataLe true (encD st) (pD p) (pD q) = PySem.W.dataLe false (encD st) (pD q) (pD p) from rfl).trans (dataLe_pD q p)
theorem v_sort_pr (ps : List PR) : (gSorted true (ps.map pD) st).Wp QL E ↔ QL ((ps.mergeSort fun a b => leP b a).map pD) st := by
  unfold gSorted
  have h1 : ((ps.map pD).all fun d => (py st pyDeep d).isSome) = true := by
    refine List.all_eq_true.mpr fun d hd => ?_
    obtain ⟨p, _, rfl⟩ := List.mem_map.mp hd
    unfold pyDeep
    rw [py_pD]
    rfl
  have h2 : (ps.map pD).map (encD st) = ps.map pP := by
    rw [List.map_map]
    exact List.map_congr_left fun p _ => encD_pD p
  rw [if_pos ⟨h1, by rw [h2]; exact sortB_pP ps⟩]
  have e : (ps.map pD).mergeSort (PySem.W.dataLe true (encD st)) = (ps.mergeSort fun a b => leP b a).map pD :=
    (List.map_mergeSort (r := fun a b => leP b a) (s := PySem.W.dataLe true (encD st)) (f := pD) (fun a _ b _ => (dataGe_pD a b).symm)).symm
  rw [e]
  exact Iff.rfl
end
theorem srtP_uniq {a b : List PR} (h : List.Perm a b) (ha : List.Pairwise (fun a b => leP a b = true) a) (hb : List.Pairwise (fun a b => leP a b = true) b) : a = b :=
  h.eq_of_pairwise (fun x y _ _ h1 h2 => leP_anti h1 h2) ha hb
theorem pDs_inj : ∀ {a b : List PR}, a.map pD = b.map pD → a = b
  | [], [], _ => rfl
  | [], _ :: _, h => by cases h
  | _ :: _, [], h => by cases h
  | p :: a, q :: b, h => by
    rw [List.map_cons, List.map_cons, List.cons.injEq] at h
    rw [pD_inj h.1, pDs_inj h.2]
/-- plain data and lists other than the box, n deep -/
def okJ (j : Nat) (st : Sto) : Nat → D → Prop
  | 0, _ => False
  | n + 1, .tup xs => ∀ x ∈ xs, okJ j st n x
  | _ + 1, .ref i => i ≠ j ∧ ∃ xs, st[i]? = some (.lst xs)
  | _ + 1, _ => True
theorem okJ.step {j : Nat} {st s' : Sto} (w : Wk j st s') : ∀ {n : Nat} {d : D}, okJ j st n d → okJ j s' n d
  | 0, _, h => h
  | n + 1, .tup xs, h => fun x hx => okJ.step w (h x hx)
  | n + 1, .ref i, h => by
    obtain ⟨hi, xs, e⟩ := h
    exact ⟨hi, xs, w.at e hi⟩
  | n + 1, .non, _ => trivial
  | n + 1, .bl _, _ => trivial
  | n + 1, .int _, _ => trivial
  | n + 1, .str _, _ => trivial
theorem okJ.okR {j : Nat} {st : Sto} {n : Nat} {d : D} (h : okJ j st n d) : okR st d := by
  cases n with
  | zero => exact h.elim
  | succ n =>
    cases d with
    | ref i => exact h.2
    | _ => trivial
theorem okJ.up {j : Nat} {st : Sto} : ∀ {n : Nat} {d : D}, okJ j st n d → okJ j st (n + 1) d
  | 0, _, h => h.elim
  | n + 1, .tup xs, h => fun x hx => (h x hx).up
  | n + 1, .ref i, h => h
  | n + 1, .non, _ => trivial
  | n + 1, .bl _, _ => trivial
  | n + 1, .int _, _ => trivial
  | n + 1, .str _, _ => trivial
end Mir
namespace K78
open PySem Mir
theorem okD_of {j : Nat} {st : Sto} {n : Nat} {d : D} (h : okJ j st (n + 1) d) : okD st d := by
  cases d with
  | tup xs => exact fun x hx => (h x hx).okR
  | _ => exact h.okR
theorem okD2_of {j : Nat} {st : Sto} {n : Nat} {d : D} (h : okJ j st (n + 3) d) : ∀ a xs, d = .tup [a, .tup xs] → ∀ x ∈ xs, okD st x := fun a xs e x hx => by
  subst e
  exact okD_of (h (.tup xs) (by simp) x hx)
theorem okJ_ps {j : Nat} {st : Sto} {n : Nat} (ps : List PR) : okJ j st (n + 3) (.tup (ps.map pD)) := fun x hx => by
  obtain ⟨p, _, rfl⟩ := List.mem_map.mp hx
  intro y hy
  rcases List.mem_cons.mp hy with rfl | hy
  · trivial
  · rw [List.mem_singleton.mp hy]; trivial
theorem okJ_pD {j : Nat} {st : Sto} {n : Nat} (p : PR) : okJ j st (n + 2) (pD p) := fun y hy => by
  rcases List.mem_cons.mp hy with rfl | hy
  · trivial
  · rw [List.mem_singleton.mp hy]; trivial
theorem okJ_two {j : Nat} {st : Sto} {n : Nat} {a b : D} (ha : okJ j st n a) (hb : okJ j st n b) : okJ j st (n + 1) (.tup [a, b]) := fun y hy => by
  rcases List.mem_cons.mp hy with rfl | hy
  · exact ha
  · rw [List.mem_singleton.mp hy]; exact hb
/-! ### what is told is the fault -/
theorem chk_m1 {d : D} {r : Option Int} (h : tupB 2 d = false) (c : ChkR d r) : r = some (-1) := by
  rcases c with ⟨c, _⟩ | ⟨a, b, rfl, _⟩
  · exact c
  · simp [tupB] at h
theorem chk_0 {a b : D} {r : Option Int} (h : numB 1 7 a = false) (c : ChkR (.tup [a, b]) r) : r = some 0 := by
  rcases c with ⟨_, c⟩ | ⟨a', b', e, c⟩
  · simp [tupB] at c
  · simp only [D.tup.injEq, List.cons.injEq, and_true] at e
    obtain ⟨rfl, rfl⟩ := e
    rcases c with ⟨c, _⟩ | ⟨many, rfl, hm, _⟩
    · exact c
    · simp [numB] at h
      omega
/-- ways that are none -/
def BadW (many : Int) (b : D) : Prop := ∀ qs : List PR, b = .tup (qs.map pD) → (qs.map pD).all (wayB many) = true → qs.length ≤ 14 → qs = srtP qs → False
theorem chk_1 {many : Int} {b : D} {r : Option Int} (hm : 1 ≤ many ∧ many ≤ 7) (h : BadW many b) (c : ChkR (.tup [.int many, b]) r) : r = some 1 := by
  rcases c with ⟨_, c⟩ | ⟨a', b', e, c⟩
  · simp [tupB] at c
  · simp only [D.tup.injEq, List.cons.injEq, and_true] at e
    obtain ⟨rfl, rfl⟩ := e
    rcases c with ⟨_, c⟩ | ⟨many', e, _, c⟩
    · simp [numB] at c
      omega
    · rcases c with ⟨c, _⟩ | ⟨ps, rfl, l, w, s, _⟩
      · exact c
      · cases e
        exact (h ps rfl w l s).elim
theorem chk_ps {many : Int} {qs : List PR} {r : Option Int} (hm : 1 ≤ many ∧ many ≤ 7) (hl : qs.length ≤ 14) (hw : (qs.map pD).all (wayB many) = true) (hs : qs = srtP qs) (c : ChkR (.tup [.int many, .tup (qs.map pD)]) r) :
    (∃ p : Int, (0 ≤ p ∧ p < many) ∧ waysAt qs p = [] ∧ (∀ q : Int, 0 ≤ q → q < p → waysAt qs q ≠ []) ∧ r = some (2 + p)) ∨ (r = none ∧ ∀ p : Int, 0 ≤ p → p < many → waysAt qs p ≠ []) := by
  rcases c with ⟨_, c⟩ | ⟨a', b', e, c⟩
  · simp [tupB] at c
  · simp only [D.tup.injEq, List.cons.injEq, and_true] at e
    obtain ⟨rfl, rfl⟩ := e
    rcases c with ⟨_, c⟩ | ⟨many', e, _, c⟩
    · simp [numB] at c
      omega
    · cases e
      rcases c with ⟨_, c⟩ | ⟨ps, e, l, w, s, c⟩
      · rcases c with ⟨_, c⟩ | ⟨c, _⟩
        · rcases c with c | ⟨xs, e, c⟩
          · cases c
          · cases e
            rcases c with c | c | ⟨ps, e, c⟩
            · rw [List.length_map] at c; omega
            · rw [hw] at c; cases c
            · rw [← pDs_inj e] at c; exact (c hs).elim
        · cases c
      · simp only [D.tup.injEq] at e
        rw [← pDs_inj e] at c
        exact c
theorem waysAt_nil {ps : List PR} {k : Int} : waysAt ps k = [] ↔ ∀ p ∈ ps, p.1 ≠ k := by
  unfold waysAt
  rw [List.map_eq_nil_iff, List.filter_eq_nil_iff]
  constructor
  · intro h p hp e
    exact h p hp (by simpa using e)
  · intro h p hp e
    exact h p hp (by simpa using e)
theorem wayB_ok {many : Int} {p : PR} (h : wayOk many p) : wayB many (pD p) = true := by
  obtain ⟨⟨a, b⟩, ⟨c, d⟩, e⟩ := h
  show (numB 0 (many - 1) (.int p.1) && (numB 0 many (.int p.2) && neI (.int p.1) (.int p.2))) = true
  simp [numB, neI]
  omega
theorem all_ok {many : Int} {ps : List PR} (h : ∀ p ∈ ps, wayOk many p) : (ps.map pD).all (wayB many) = true := List.all_eq_true.mpr fun d hd => by
  obtain ⟨p, hp, rfl⟩ := List.mem_map.mp hd
  exact wayB_ok (h p hp)
theorem chk_good {many : Int} {ps : List PR} {r : Option Int} (h : Good many ps) (c : ChkR (netD many ps) r) : r = none := by
  rcases chk_ps h.m h.len (all_ok h.ok) h.srt c with ⟨p, hp, e, _⟩ | ⟨c, _⟩
  · obtain ⟨q, hq, e2⟩ := h.all p hp.1 hp.2
    exact (waysAt_nil.mp e q hq e2).elim
  · exact c
theorem chk_less {many place : Int} {ps : List PR} {r : Option Int} (h : Good many ps) (hp : 0 ≤ place ∧ place < many) (c : ChkR (.tup [.int many, .tup ((ps.filter fun p => !decide (p.1 = place)).map pD)]) r) : r = some (2 + place) := by
  have hs : ps.filter (fun p => !decide (p.1 = place)) = srtP (ps.filter fun p => !decide (p.1 = place)) := (srtP_of (by
    have := srtP_pw ps
    rw [← h.srt] at this
    exact this.filter _)).symm
  have hok : ∀ p ∈ ps.filter (fun p => !decide (p.1 = place)), wayOk many p := fun p hp => h.ok p (List.mem_filter.mp hp).1
  have hlen : (ps.filter fun p => !decide (p.1 = place)).length ≤ 14 := Nat.le_trans (List.length_filter_le _ _) h.len
  have none_here : waysAt (ps.filter fun p => !decide (p.1 = place)) place = [] := waysAt_nil.mpr fun p hp e => by
    have := (List.mem_filter.mp hp).2
    simp [e] at this
  have some_else : ∀ q : Int, 0 ≤ q → q < many → q ≠ place → waysAt (ps.filter fun p => !decide (p.1 = place)) q ≠ [] := fun q h1 h2 h3 z => by
    obtain ⟨p, hp, e⟩ := h.all q h1 h2
    exact waysAt_nil.mp z p (List.mem_filter.mpr ⟨hp, by simp [e, h3]⟩) e
  rcases chk_ps h.m hlen (all_ok hok) hs c with ⟨p, hp1, e, hq, er⟩ | ⟨_, c⟩
  · by_cases z : p = place
    · rw [er, z]
    · exact (some_else p hp1.1 hp1.2 z e).elim
  · exact (c place hp.1 hp.2 none_here).elim
theorem chk_empty {many : Int} {r : Option Int} (hm : 1 ≤ many ∧ many ≤ 7) (c : ChkR (.tup [.int many, .tup []]) r) : r = some 2 := by
  have e0 : ∀ q : Int, waysAt [] q = [] := fun q => rfl
  rcases chk_ps (qs := []) hm (by simp) rfl (by simp [srtP]) c with ⟨p, hp, _, hq, er⟩ | ⟨_, c⟩
  · by_cases z : p = 0
    · rw [er, z]; rfl
    · exact (hq 0 (Int.le_refl 0) (by omega) (e0 0)).elim
  · exact (c 0 (Int.le_refl 0) (by omega) (e0 0)).elim
theorem badW_in {many : Int} {xs : List D} {x : D} (hx : x ∈ xs) (h : wayB many x = false) : BadW many (.tup xs) := fun qs e w _ _ => by
  cases e
  have := List.all_eq_true.mp w x hx
  rw [h] at this
  cases this
theorem badW_not {many : Int} {b : D} (h : isTup b = false) : BadW many b := fun qs e _ _ _ => by
  subst e
  cases h
theorem badW_long {many : Int} {qs : List PR} (h : 14 < qs.length) : BadW many (.tup (qs.map pD)) := fun q e _ l _ => by
  simp only [D.tup.injEq] at e
  rw [← pDs_inj e] at l
  omega
theorem badW_rev {many : Int} {ps : List PR} (hs : ps = srtP ps) (h : ps ≠ ps.mergeSort fun a b => leP b a) : BadW many (.tup (ps.map pD).reverse) := fun q e _ _ sq => by
  simp only [D.tup.injEq, ← List.map_reverse] at e
  have e := pDs_inj e
  subst e
  have s1 := srtP_pw ps
  rw [← hs] at s1
  have s2 := srtP_pw ps.reverse
  rw [← sq] at s2
  have e1 : ps.reverse = ps := srtP_uniq (List.reverse_perm ps) s2 s1
  refine h ?_
  have p3 : List.Pairwise (fun a b => leP b a = true) (ps.mergeSort fun a b => leP b a) := List.pairwise_mergeSort (le := fun a b => leP b a) (fun a b c h1 h2 => leP_trans c b a h2 h1) (fun a b => leP_total b a) ps
  have p4 : List.Pairwise (fun a b => leP b a = true) ps := by
    have := (List.pairwise_reverse (l := ps) (R := fun a b => leP b a = true)).mpr s1
    rw [e1] at this
    exact this
  exact (List.Perm.eq_of_pairwise (le := fun a b => leP b a = true) (fun x y _ _ h1 h2 => leP_anti h2 h1) p4 p3 (List.mergeSort_perm ps _).symm)
end K78
end part_P78h
section part_P78i
set_option maxHeartbeats 1000000
namespace K78
open PySem Mir
section
variable {Q : D → Sto → Prop} {E : Exn → Sto → Prop} {st : Sto} {j : Nat}
/-- a value and where it is at fault -/
def Ent (j : Nat) (s : Sto) (x : D) : Prop := ∃ v a, x = .tup [v, .int a] ∧ okJ j s 6 v ∧ ∀ r, ChkR v r → r = some a
theorem Ent.step {s s' : Sto} {x : D} (w : Wk j s s') (h : Ent j s x) : Ent j s' x := by
  obtain ⟨v, a, e, o, c⟩ := h
  exact ⟨v, a, e, o.step w, c⟩
/-- the list of what is found -/
structure Fnd (j i n : Nat) (st s : Sto) : Prop where
  w : Wk j st s
  new : st.length ≤ i
  at_ : ∃ xs, s[i]? = some (.lst xs) ∧ xs.length ≤ n ∧ ∀ x ∈ xs, Ent j s x
theorem Fnd.step {i n : Nat} {s s' : Sto} (h : Fnd j i n st s) (hj : j < st.length) (w : Wk j s s') : Fnd j i n st s' := by
  obtain ⟨xs, e, l, o⟩ := h.at_
  exact ⟨h.w.trans w, h.new, xs, w.at e (by have := h.new; omega), l, fun x hx => (o x hx).step w⟩
theorem Fnd.lst {i n : Nat} {s : Sto} (h : Fnd j i n st s) : tyName s (.ref i) = some "list" := by
  obtain ⟨xs, e, _⟩ := h.at_
  exact ty_ref e
/-- one more -/
theorem Fnd.push {i n : Nat} {s : Sto} (h : Fnd j i n st s) (hj : j < st.length) (hn : n ≤ 900) {x : D} (hx : Ent j s x) {Q : D → Sto → Prop} {E : Exn → Sto → Prop} (k : ∀ s', Fnd j i (n + 1) st s' → (∀ q, q ≠ i → s'[q]? = s[q]?) → Q .non s') : (gAppend (.ref i) [x] s).Wp Q E := by
  obtain ⟨xs, e, l, o⟩ := h.at_
  have hi := (List.getElem?_eq_some_iff.mp e).1
  refine (v_app e (szL (by omega))).mpr ?_
  have ww : Wk j st (s.set i (.lst (xs ++ [x]))) := h.w.own h.new hj
  have keep : ∀ {n : Nat} {d : D}, okJ j s n d → okJ j (s.set i (.lst (xs ++ [x]))) n d := fun {n d} => by
    induction n generalizing d with
    | zero => exact id
    | succ n ih =>
      cases d with
      | tup ys => exact fun h y hy => ih (h y hy)
      | ref k =>
        intro h
        obtain ⟨hk, zs, ez⟩ := h
        by_cases c : k = i
        · subst c
          exact ⟨hk, _, List.getElem?_set_self hi⟩
        · exact ⟨hk, zs, by rw [List.getElem?_set_ne (fun z => c z.symm)]; exact ez⟩
      | _ => exact id
  have ent : ∀ {y : D}, Ent j s y → Ent j (s.set i (.lst (xs ++ [x]))) y := fun {y} ⟨v, a, e, o, c⟩ => ⟨v, a, e, keep o, c⟩
  refine k _ ⟨ww, h.new, xs ++ [x], List.getElem?_set_self hi, by simp; omega, fun y hy => ?_⟩ fun q hq => List.getElem?_set_ne (Ne.symm hq)
  rcases List.mem_append.mp hy with hy | hy
  · exact ent (o y hy)
  · rw [List.mem_singleton.mp hy]
    exact ent hx
theorem Fnd.le {i n m : Nat} {s : Sto} (h : Fnd j i n st s) (hm : n ≤ m) : Fnd j i m st s := by
  obtain ⟨xs, e, l, o⟩ := h.at_
  exact ⟨h.w, h.new, xs, e, by omega, o⟩
/-- the frame of _law_bent -/
def BJ (j i n : Nat) (st : Sto) (h : En) (en : En) (s : Sto) : Prop := ∃ x y z, en = h ++ [some (.ref i), x, y, z] ∧ Fnd j i n st s
theorem v_ix_p0 {p : PR} : (gIdx (pD p) (.int 0) st).Wp Q E ↔ Q (.int p.1) st := by
  show (gIdx (.tup [.int p.1, .int p.2]) (.int 0) st).Wp Q E ↔ _
  simp only [m_fn, s_seq, s_if, s_ret, s_asg, s_expr, s_nx, s_bk, s_ct, s_par, s_raise, s_for, g_name, m_op, m_un, m_then, m_callb, m_var, m_c, m_call, m_callk, m_cons, m_nil, m_tup, m_lst, m_new, m_te, m_tand, m_tor, m_tnot, m_if, m_and, m_or, m_comp, v_add, v_sub, v_neg, v_lt, v_le, v_gt, v_ge, v_mod, v_fdiv, v_mul, v_int, v_abs, v_max, v_min, v_isN, v_notN, v_isB, v_not, v_len_t, v_eq_i, v_ne_i, v_eq_b, v_ix_t, wp_pure, wp_ite, List.map_cons, List.map_nil, List.length_cons, List.length_nil, List.replicate, List.append_nil, List.nil_append, List.cons_append, List.getElem?_cons_zero, List.getElem?_cons_succ, List.getElem?_nil, List.set_cons_zero, List.set_cons_succ, Option.some.injEq, D.bl.injEq, D.int.injEq, D.tup.injEq, exists_eq_left', exists_eq_left, exists_and_left, true_and, and_true, Nat.reduceAdd, Nat.reduceSub, Nat.zero_add, if_true, if_false, Bool.false_eq_true, reduceCtorEq, decide_eq_true_eq, Nat.reduceEqDiff, at0]
theorem v_ix_p1 {p : PR} : (gIdx (pD p) (.int 1) st).Wp Q E ↔ Q (.int p.2) st := by
  show (gIdx (.tup [.int p.1, .int p.2]) (.int 1) st).Wp Q E ↔ _
  simp only [m_fn, s_seq, s_if, s_ret, s_asg, s_expr, s_nx, s_bk, s_ct, s_par, s_raise, s_for, g_name, m_op, m_un, m_then, m_callb, m_var, m_c, m_call, m_callk, m_cons, m_nil, m_tup, m_lst, m_new, m_te, m_tand, m_tor, m_tnot, m_if, m_and, m_or, m_comp, v_add, v_sub, v_neg, v_lt, v_le, v_gt, v_ge, v_mod, v_fdiv, v_mul, v_int, v_abs, v_max, v_min, v_isN, v_notN, v_isB, v_not, v_len_t, v_eq_i, v_ne_i, v_eq_b, v_ix_t, wp_pure, wp_ite, List.map_cons, List.map_nil, List.length_cons, List.length_nil, List.replicate, List.append_nil, List.nil_append, List.cons_append, List.getElem?_cons_zero, List.getElem?_cons_succ, List.getElem?_nil, List.set_cons_zero, List.set_cons_succ, Option.some.injEq, D.bl.injEq, D.int.injEq, D.tup.injEq, exists_eq_left', exists_eq_left, exists_and_left, true_and, and_true, Nat.reduceAdd, Nat.reduceSub, Nat.zero_add, if_true, if_false, Bool.false_eq_true, reduceCtorEq, decide_eq_true_eq, Nat.reduceEqDiff, at1]
theorem v_cat_p {p : PR} {b : List D} : (gAdd (pD p) (.tup b) st).Wp Q E ↔ 2 + b.length ≤ sizeLine ∧ Q (.tup (D.int p.1 :: D.int p.2 :: b)) st := v_cat_t
theorem sp_bent {many : Int} {ps : List PR} (hb : Box st j) (hg : Good many ps) (k : ∀ (i : Nat) (s' : Sto), Wk j st s' → Fnd j i 100 st s' → Q (.ref i) s') : (g__law_bent [.ref j, netD many ps] st).Wp Q E := by
  have hj := hb.lt
  have hm := hg.m
  have h0 : 0 < ps.length := by
    obtain ⟨p, hp, _⟩ := hg.all 0 (Int.le_refl _) (by omega)
    exact List.length_pos_of_mem hp
  have h14 := hg.len
  have s2 : 2 ≤ sizeLine := by unfold sizeLine; omega
  have s3 : 3 ≤ sizeLine := by unfold sizeLine; omega
  have s1 : 1 ≤ sizeLine := by unfold sizeLine; omega
  have s00 : 0 ≤ sizeLine := by unfold sizeLine; omega
  have s6 : 6 ≤ sizeLine := by unfold sizeLine; omega
  have s7 : 7 ≤ sizeLine := by unfold sizeLine; omega
  have s4 : 4 ≤ sizeLine := by unfold sizeLine; omega
  unfold g__law_bent b__law_bent_ netD
  simp only [m_fn, s_seq, s_if, s_ret, s_asg, s_expr, s_nx, s_bk, s_ct, s_par, s_raise, s_for, g_name, m_op, m_un, m_then, m_callb, m_var, m_c, m_call, m_callk, m_cons, m_nil, m_tup, m_lst, m_new, m_te, m_tand, m_tor, m_tnot, m_if, m_and, m_or, m_comp, v_add, v_sub, v_neg, v_lt, v_le, v_gt, v_ge, v_mod, v_fdiv, v_mul, v_int, v_abs, v_max, v_min, v_isN, v_notN, v_isB, v_not, v_len_t, v_eq_i, v_ne_i, v_eq_b, v_ix_t, wp_pure, wp_ite, List.map_cons, List.map_nil, List.length_cons, List.length_nil, List.replicate, List.append_nil, List.nil_append, List.cons_append, List.getElem?_cons_zero, List.getElem?_cons_succ, List.getElem?_nil, List.set_cons_zero, List.set_cons_succ, Option.some.injEq, D.bl.injEq, D.int.injEq, D.tup.injEq, exists_eq_left', exists_eq_left, exists_and_left, true_and, and_true, Nat.reduceAdd, Nat.reduceSub, Nat.zero_add, if_true, if_false, Bool.false_eq_true, reduceCtorEq, decide_eq_true_eq, Nat.reduceEqDiff, g_tup, g_cons, g_nil]
  rw [List.length_map]
  refine sp_take hb (by omega) (by omega) fun spot t1 p0 p1 w1 => ?_
  obtain ⟨n, rfl⟩ := Int.eq_ofNat_of_zero_le p0
  have hn : n < ps.length := by omega
  simp only [m_fn, s_seq, s_if, s_ret, s_asg, s_expr, s_nx, s_bk, s_ct, s_par, s_raise, s_for, g_name, m_op, m_un, m_then, m_callb, m_var, m_c, m_call, m_callk, m_cons, m_nil, m_tup, m_lst, m_new, m_te, m_tand, m_tor, m_tnot, m_if, m_and, m_or, m_comp, v_add, v_sub, v_neg, v_lt, v_le, v_gt, v_ge, v_mod, v_fdiv, v_mul, v_int, v_abs, v_max, v_min, v_isN, v_notN, v_isB, v_not, v_len_t, v_eq_i, v_ne_i, v_eq_b, v_ix_t, wp_pure, wp_ite, List.map_cons, List.map_nil, List.length_cons, List.length_nil, List.replicate, List.append_nil, List.nil_append, List.cons_append, List.getElem?_cons_zero, List.getElem?_cons_succ, List.getElem?_nil, List.set_cons_zero, List.set_cons_succ, Option.some.injEq, D.bl.injEq, D.int.injEq, D.tup.injEq, exists_eq_left', exists_eq_left, exists_and_left, true_and, and_true, Nat.reduceAdd, Nat.reduceSub, Nat.zero_add, if_true, if_false, Bool.false_eq_true, reduceCtorEq, decide_eq_true_eq, Nat.reduceEqDiff]
  refine ⟨pD ps[n], atI_nat (by simp [hn]), ?_⟩
  have hp := hg.ok ps[n] (List.getElem_mem hn)
  refine ⟨s2, s2, s1, s2, s3, s2, s2, s2, s2, s6, ?_⟩
  generalize hi : (t1 ++ [Ob.lst [D.int many, D.tup (List.map pD ps)]]).length = i
  have F0 : Fnd j i 6 st (t1 ++ [Ob.lst [D.int many, D.tup (List.map pD ps)]] ++ [Ob.lst [D.tup [D.ref (List.length t1), D.int (0 - 1)], D.tup [D.tup [D.int many], D.int (0 - 1)],
                    D.tup [D.tup [D.int many, D.tup (List.map pD ps), D.tup (List.map pD ps)], D.int (0 - 1)], D.tup [D.non, D.int (0 - 1)], D.tup [D.int many, D.int (0 - 1)], D.tup [D.str "net", D.int (0 - 1)]]]) := by
    refine ⟨(w1.trans .app).trans .app, by have := w1.le; rw [← hi]; simp; omega, [D.tup [D.ref (List.length t1), D.int (0 - 1)], D.tup [D.tup [D.int many], D.int (0 - 1)], D.tup [D.tup [D.int many, D.tup (List.map pD ps), D.tup (List.map pD ps)], D.int (0 - 1)], D.tup [D.non, D.int (0 - 1)], D.tup [D.int many, D.int (0 - 1)], D.tup [D.str "net", D.int (0 - 1)]], by rw [← hi, List.getElem?_append_right (Nat.le_refl _)]; simp, Nat.le_refl _, fun x hx => ?_⟩
    have nj : t1.length ≠ j := by have := w1.le; omega
    simp only [List.mem_cons, List.not_mem_nil, or_false] at hx
    rcases hx with rfl | rfl | rfl | rfl | rfl | rfl
    · exact ⟨_, _, rfl, ⟨nj, [D.int many, D.tup (List.map pD ps)], by simp⟩, fun r c => chk_m1 rfl c⟩
    · exact ⟨_, _, rfl, fun y hy => by rw [List.mem_singleton.mp hy]; trivial, fun r c => chk_m1 rfl c⟩
    · refine ⟨_, _, rfl, fun y hy => ?_, fun r c => chk_m1 rfl c⟩
      simp only [List.mem_cons, List.not_mem_nil, or_false] at hy
      rcases hy with rfl | rfl | rfl
      · trivial
      · exact okJ_ps (n := 2) ps
      · exact okJ_ps (n := 2) ps
    · exact ⟨_, _, rfl, trivial, fun r c => chk_m1 rfl c⟩
    · exact ⟨_, _, rfl, trivial, fun r c => chk_m1 rfl c⟩
    · exact ⟨_, _, rfl, trivial, fun r c => chk_m1 rfl c⟩
  refine ⟨s1, s7, ?_⟩
  rw [v_walkT]
  refine for_inv (J := fun a b en s => BJ j i (6 + a.length) st [some (.ref j), some (.tup [.int many, .tup (ps.map pD)]), some (.int many), some (.tup (ps.map pD)), some (.int n), some (pD ps[n])] en s)
    ⟨_, _, _, rfl, F0⟩ (fun _ _ _ _ _ => stays_nil) (fun a d b en s e ⟨x, y, z, ee, F⟩ => ?_) (fun en s ⟨x, y, z, ee, F⟩ => ?_)
  · subst ee
    have hd : d ∈ [D.int 0, D.int 8, D.bl true, D.non, D.int (0 - 1), D.str "2", D.tup [D.int many]] := by
      have e' : [D.int 0, D.int 8, D.bl true, D.non, D.int (0 - 1), D.str "2", D.tup [D.int many]] = a ++ d :: b := e
      rw [e']; simp
    have hla : a.length ≤ 7 := by
      have e' : [D.int 0, D.int 8, D.bl true, D.non, D.int (0 - 1), D.str "2", D.tup [D.int many]] = a ++ d :: b := e
      have := congrArg List.length e'
      simp at this
      omega
    have hbad : numB 1 7 d = false ∧ ∀ s, okJ j s 5 d := by
      simp only [List.mem_cons, List.not_mem_nil, or_false] at hd
      rcases hd with rfl | rfl | rfl | rfl | rfl | rfl | rfl
      · exact ⟨by decide, fun _ => trivial⟩
      · exact ⟨by decide, fun _ => trivial⟩
      · exact ⟨rfl, fun _ => trivial⟩
      · exact ⟨rfl, fun _ => trivial⟩
      · exact ⟨by decide, fun _ => trivial⟩
      · exact ⟨rfl, fun _ => trivial⟩
      · exact ⟨rfl, fun s y hy => by rw [List.mem_singleton.mp hy]; trivial⟩
    simp only [m_fn, s_seq, s_if, s_ret, s_asg, s_expr, s_nx, s_bk, s_ct, s_par, s_raise, s_for, g_name, m_op, m_un, m_then, m_callb, m_var, m_c, m_call, m_callk, m_cons, m_nil, m_tup, m_lst, m_new, m_te, m_tand, m_tor, m_tnot, m_if, m_and, m_or, m_comp, v_add, v_sub, v_neg, v_lt, v_le, v_gt, v_ge, v_mod, v_fdiv, v_mul, v_int, v_abs, v_max, v_min, v_isN, v_notN, v_isB, v_not, v_len_t, v_eq_i, v_ne_i, v_eq_b, v_ix_t, wp_pure, wp_ite, List.map_cons, List.map_nil, List.length_cons, List.length_nil, List.replicate, List.append_nil, List.nil_append, List.cons_append, List.getElem?_cons_zero, List.getElem?_cons_succ, List.getElem?_nil, List.set_cons_zero, List.set_cons_succ, Option.some.injEq, D.bl.injEq, D.int.injEq, D.tup.injEq, exists_eq_left', exists_eq_left, exists_and_left, true_and, and_true, Nat.reduceAdd, Nat.reduceSub, Nat.zero_add, if_true, if_false, Bool.false_eq_true, reduceCtorEq, decide_eq_true_eq, Nat.reduceEqDiff, m_app, v_list_t]
    refine ⟨F.lst, s00, s4, ?_⟩
    have nj : s.length ≠ j := by have := F.w.le; omega
    refine sp_pick (i := (s ++ [Ob.lst (List.map pD ps)]).length) (xs := [D.tup (List.map pD ps), D.tup [], D.ref s.length, D.int 5]) (((F.w.trans .app).trans .app).box hb) (by rw [List.getElem?_append_right (Nat.le_refl _)]; simp) (by have := F.w.le; simp; omega) (by simp) (by simp) fun d2 s' hd2 w' => ?_
    have F' := F.step hj ((Wk.app.trans .app).trans w')
    refine ⟨s2, s2, ?_⟩
    refine F'.push hj (by omega) ⟨.tup [d, d2], 0, rfl, okJ_two (hbad.2 s') ?_, fun r c => chk_0 hbad.1 c⟩ fun s'' F'' _ => ?_
    · simp only [List.mem_cons, List.not_mem_nil, or_false] at hd2
      rcases hd2 with rfl | rfl | rfl | rfl
      · exact okJ_ps (n := 2) ps
      · exact fun y hy => nomatch hy
      · refine ⟨nj, List.map pD ps, w'.at ?_ nj⟩
        rw [List.getElem?_append_left (by simp), List.getElem?_append_right (Nat.le_refl _)]
        simp
      · trivial
    · exact ⟨_, _, _, rfl, by rw [List.length_append]; exact F''⟩
  subst ee
  have F := F.le (m := 13) (by simp)
  simp only [m_fn, s_seq, s_if, s_ret, s_asg, s_expr, s_nx, s_bk, s_ct, s_par, s_raise, s_for, g_name, m_op, m_un, m_then, m_callb, m_var, m_c, m_call, m_callk, m_cons, m_nil, m_tup, m_lst, m_new, m_te, m_tand, m_tor, m_tnot, m_if, m_and, m_or, m_comp, v_add, v_sub, v_neg, v_lt, v_le, v_gt, v_ge, v_mod, v_fdiv, v_mul, v_int, v_abs, v_max, v_min, v_isN, v_notN, v_isB, v_not, v_len_t, v_eq_i, v_ne_i, v_eq_b, v_ix_t, wp_pure, wp_ite, List.map_cons, List.map_nil, List.length_cons, List.length_nil, List.replicate, List.append_nil, List.nil_append, List.cons_append, List.getElem?_cons_zero, List.getElem?_cons_succ, List.getElem?_nil, List.set_cons_zero, List.set_cons_succ, Option.some.injEq, D.bl.injEq, D.int.injEq, D.tup.injEq, exists_eq_left', exists_eq_left, exists_and_left, true_and, and_true, Nat.reduceAdd, Nat.reduceSub, Nat.zero_add, if_true, if_false, Bool.false_eq_true, reduceCtorEq, decide_eq_true_eq, Nat.reduceEqDiff, v_list_t, v_cat_t, v_walkT]
  have sW : (List.map pD ps).length + 1 ≤ sizeLine := by rw [List.length_map]; unfold sizeLine; omega
  refine ⟨s1, sW, s2, s1, sW, s2, s1, sW, s2, s1, sW, s7, ?_⟩
  have nj : s.length ≠ j := by have := F.w.le; omega
  have ni : s.length ≠ i := by
    obtain ⟨_, e, _⟩ := F.at_
    have := (List.getElem?_eq_some_iff.mp e).1
    omega
  generalize hk : s.length = kk at nj ni
  have F1 := F.step hj (.app (l := [Ob.lst (List.map pD ps)]))
  have hW : (s ++ [Ob.lst (List.map pD ps)])[kk]? = some (.lst (List.map pD ps)) := by rw [← hk]; simp
  refine for_inv (J := fun a b en s => BJ j i (13 + a.length) st [some (.ref j), some (.tup [.int many, .tup (ps.map pD)]), some (.int many), some (.tup (ps.map pD)), some (.int n), some (pD ps[n])] en s ∧ s[kk]? = some (.lst (List.map pD ps)))
    ⟨⟨_, _, _, rfl, F1⟩, hW⟩ (fun _ _ _ _ _ => stays_nil) (fun a d b en s e ⟨⟨x, y, z, ee, F⟩, hW⟩ => ?_) (fun en s ⟨⟨x, y, z, ee, F⟩, hW⟩ => ?_)
  · subst ee
    have hd : d ∈ [D.ref kk, D.non, D.int 7, D.tup (List.map pD ps ++ [D.int 0]), D.tup (List.map pD ps ++ [D.tup [D.int 0, D.int 0]]), D.tup (List.map pD ps ++ [D.tup [D.int many, D.int many]]), D.tup (List.map pD ps ++ [D.tup [D.int 0, D.int (many + 1)]])] := by
      rw [e]; simp
    have hla : a.length ≤ 7 := by
      have := congrArg List.length e
      simp at this
      omega
    have okL : ∀ {x : D}, okJ j s 4 x → okJ j s 5 (.tup (List.map pD ps ++ [x])) := fun {x} hx y hy => by
      rcases List.mem_append.mp hy with hy | hy
      · exact okJ_ps (n := 2) ps y hy
      · rw [List.mem_singleton.mp hy]; exact hx
    have last : ∀ {x : D}, x ∈ List.map pD ps ++ [x] := fun {x} => List.mem_append_right _ (List.mem_singleton.mpr rfl)
    have hbad : BadW many d ∧ okJ j s 5 d := by
      simp only [List.mem_cons, List.not_mem_nil, or_false] at hd
      rcases hd with rfl | rfl | rfl | rfl | rfl | rfl | rfl
      · exact ⟨badW_not rfl, nj, _, hW⟩
      · exact ⟨badW_not rfl, trivial⟩
      · exact ⟨badW_not rfl, trivial⟩
      · exact ⟨badW_in last rfl, okL trivial⟩
      · exact ⟨badW_in last (by simp [wayB, neI, numB]), okL (okJ_two (n := 3) trivial trivial)⟩
      · exact ⟨badW_in last (by simp [wayB, neI, numB]), okL (okJ_two (n := 3) trivial trivial)⟩
      · exact ⟨badW_in last (by simp [wayB, neI, numB]; omega), okL (okJ_two (n := 3) trivial trivial)⟩
    simp only [m_fn, s_seq, s_if, s_ret, s_asg, s_expr, s_nx, s_bk, s_ct, s_par, s_raise, s_for, g_name, m_op, m_un, m_then, m_callb, m_var, m_c, m_call, m_callk, m_cons, m_nil, m_tup, m_lst, m_new, m_te, m_tand, m_tor, m_tnot, m_if, m_and, m_or, m_comp, v_add, v_sub, v_neg, v_lt, v_le, v_gt, v_ge, v_mod, v_fdiv, v_mul, v_int, v_abs, v_max, v_min, v_isN, v_notN, v_isB, v_not, v_len_t, v_eq_i, v_ne_i, v_eq_b, v_ix_t, wp_pure, wp_ite, List.map_cons, List.map_nil, List.length_cons, List.length_nil, List.replicate, List.append_nil, List.nil_append, List.cons_append, List.getElem?_cons_zero, List.getElem?_cons_succ, List.getElem?_nil, List.set_cons_zero, List.set_cons_succ, Option.some.injEq, D.bl.injEq, D.int.injEq, D.tup.injEq, exists_eq_left', exists_eq_left, exists_and_left, true_and, and_true, Nat.reduceAdd, Nat.reduceSub, Nat.zero_add, if_true, if_false, Bool.false_eq_true, reduceCtorEq, decide_eq_true_eq, Nat.reduceEqDiff, m_app]
    refine ⟨F.lst, s2, s2, ?_⟩
    refine F.push hj (by omega) ⟨.tup [.int many, d], 1, rfl, okJ_two (n := 5) trivial hbad.2, fun r c => chk_1 hm hbad.1 c⟩ fun s' F' keep => ?_
    exact ⟨⟨_, _, _, rfl, by rw [List.length_append]; exact F'⟩, by rw [keep _ ni]; exact hW⟩
  subst ee
  have F := F.le (m := 20) (by simp)
  simp only [m_fn, s_seq, s_if, s_ret, s_asg, s_expr, s_nx, s_bk, s_ct, s_par, s_raise, s_for, g_name, m_op, m_un, m_then, m_callb, m_var, m_c, m_call, m_callk, m_cons, m_nil, m_tup, m_lst, m_new, m_te, m_tand, m_tor, m_tnot, m_if, m_and, m_or, m_comp, v_add, v_sub, v_neg, v_lt, v_le, v_gt, v_ge, v_mod, v_fdiv, v_mul, v_int, v_abs, v_max, v_min, v_isN, v_notN, v_isB, v_not, v_len_t, v_eq_i, v_ne_i, v_eq_b, v_ix_t, wp_pure, wp_ite, List.map_cons, List.map_nil, List.length_cons, List.length_nil, List.replicate, List.append_nil, List.nil_append, List.cons_append, List.getElem?_cons_zero, List.getElem?_cons_succ, List.getElem?_nil, List.set_cons_zero, List.set_cons_succ, Option.some.injEq, D.bl.injEq, D.int.injEq, D.tup.injEq, exists_eq_left', exists_eq_left, exists_and_left, true_and, and_true, Nat.reduceAdd, Nat.reduceSub, Nat.zero_add, if_true, if_false, Bool.false_eq_true, reduceCtorEq, decide_eq_true_eq, Nat.reduceEqDiff, v_walkT, v_ix_p0, v_ix_p1, v_cat_p]
  refine ⟨s2, s1, s1, s3, s2, s2, s2, s2, s7, ?_⟩
  have nj : s.length ≠ j := by have := F.w.le; omega
  have ni : s.length ≠ i := by
    obtain ⟨_, e, _⟩ := F.at_
    have := (List.getElem?_eq_some_iff.mp e).1
    omega
  generalize hk2 : s.length = k3 at nj ni
  have F1 := F.step hj (.app (l := [Ob.lst [D.int ps[n].1, D.int ps[n].2]]))
  have hW : (s ++ [Ob.lst [D.int ps[n].1, D.int ps[n].2]])[k3]? = some (.lst [D.int ps[n].1, D.int ps[n].2]) := by rw [← hk2]; simp
  refine for_inv (J := fun a b en s => BJ j i (20 + a.length) st [some (.ref j), some (.tup [.int many, .tup (ps.map pD)]), some (.int many), some (.tup (ps.map pD)), some (.int n), some (pD ps[n])] en s ∧ s[k3]? = some (.lst [D.int ps[n].1, D.int ps[n].2]))
    ⟨⟨_, _, _, rfl, F1⟩, hW⟩ (fun _ _ _ _ _ => stays_nil) (fun a d b en s e ⟨⟨x, y, z, ee, F⟩, hW⟩ => ?_) (fun en s ⟨⟨x, y, z, ee, F⟩, hW⟩ => ?_)
  · subst ee
    have hd : d ∈ [D.ref k3, D.tup [D.int ps[n].1], D.tup [D.int ps[n].1, D.int ps[n].2, D.int 1], D.tup [D.int ps[n].1, D.non], D.tup [D.bl true, D.int ps[n].2], D.tup [D.int ps[n].1, D.int ps[n].1], D.tup [D.int (0 - 1), D.int ps[n].2]] := by
      rw [e]; simp
    have hla : a.length ≤ 7 := by
      have := congrArg List.length e
      simp at this
      omega
    have hbad : wayB many d = false ∧ okJ j s 4 d := by
      simp only [List.mem_cons, List.not_mem_nil, or_false] at hd
      rcases hd with rfl | rfl | rfl | rfl | rfl | rfl | rfl
      · exact ⟨rfl, nj, _, hW⟩
      · exact ⟨rfl, fun y hy => by rw [List.mem_singleton.mp hy]; trivial⟩
      · refine ⟨rfl, fun y hy => ?_⟩
        simp only [List.mem_cons, List.not_mem_nil, or_false] at hy
        rcases hy with rfl | rfl | rfl <;> trivial
      · exact ⟨by simp [wayB, numB], okJ_two (n := 3) trivial trivial⟩
      · exact ⟨by simp [wayB, numB], okJ_two (n := 3) trivial trivial⟩
      · exact ⟨by simp [wayB, neI], okJ_two (n := 3) trivial trivial⟩
      · exact ⟨by simp [wayB, numB], okJ_two (n := 3) trivial trivial⟩
    simp only [m_fn, s_seq, s_if, s_ret, s_asg, s_expr, s_nx, s_bk, s_ct, s_par, s_raise, s_for, g_name, m_op, m_un, m_then, m_callb, m_var, m_c, m_call, m_callk, m_cons, m_nil, m_tup, m_lst, m_new, m_te, m_tand, m_tor, m_tnot, m_if, m_and, m_or, m_comp, v_add, v_sub, v_neg, v_lt, v_le, v_gt, v_ge, v_mod, v_fdiv, v_mul, v_int, v_abs, v_max, v_min, v_isN, v_notN, v_isB, v_not, v_len_t, v_eq_i, v_ne_i, v_eq_b, v_ix_t, wp_pure, wp_ite, List.map_cons, List.map_nil, List.length_cons, List.length_nil, List.replicate, List.append_nil, List.nil_append, List.cons_append, List.getElem?_cons_zero, List.getElem?_cons_succ, List.getElem?_nil, List.set_cons_zero, List.set_cons_succ, Option.some.injEq, D.bl.injEq, D.int.injEq, D.tup.injEq, exists_eq_left', exists_eq_left, exists_and_left, true_and, and_true, Nat.reduceAdd, Nat.reduceSub, Nat.zero_add, if_true, if_false, Bool.false_eq_true, reduceCtorEq, decide_eq_true_eq, Nat.reduceEqDiff, m_app, m_sl, m_onone, m_osome, v_sl_t, v_cat_t]
    have l1 := len_cutD (xs := List.map pD ps) (lo := none) (hi := some (n : Int))
    have l2 := len_cutD (xs := List.map pD ps) (lo := some ((n : Int) + 1)) (hi := none)
    rw [List.length_map] at l1 l2
    refine ⟨F.lst, s1, by unfold sizeLine; omega, by rw [List.length_append]; unfold sizeLine; simp; omega, s2, s2, ?_⟩
    refine F.push hj (by omega) ⟨_, 1, rfl, okJ_two (n := 5) (show okJ j s 5 (.int many) from trivial) ?_, fun r c => chk_1 hm (badW_in (x := d) (by simp) hbad.1) c⟩ fun s' F' keep => ?_
    · intro y hy
      rcases List.mem_append.mp hy with hy | hy
      · rcases List.mem_append.mp hy with hy | hy
        · exact okJ_ps (n := 2) ps y (mem_cutD hy)
        · rw [List.mem_singleton.mp hy]; exact hbad.2
      · exact okJ_ps (n := 2) ps y (mem_cutD hy)
    · exact ⟨⟨_, _, _, rfl, by rw [List.length_append]; exact F'⟩, by rw [keep _ ni]; exact hW⟩
  subst ee
  have F := F.le (m := 30) (by simp)
  clear hW
  simp only [m_fn, s_seq, s_if, s_ret, s_asg, s_expr, s_nx, s_bk, s_ct, s_par, s_raise, s_for, g_name, m_op, m_un, m_then, m_callb, m_var, m_c, m_call, m_callk, m_cons, m_nil, m_tup, m_lst, m_new, m_te, m_tand, m_tor, m_tnot, m_if, m_and, m_or, m_comp, v_add, v_sub, v_neg, v_lt, v_le, v_gt, v_ge, v_mod, v_fdiv, v_mul, v_int, v_abs, v_max, v_min, v_isN, v_notN, v_isB, v_not, v_len_t, v_eq_i, v_ne_i, v_eq_b, v_ix_t, wp_pure, wp_ite, List.map_cons, List.map_nil, List.length_cons, List.length_nil, List.replicate, List.append_nil, List.nil_append, List.cons_append, List.getElem?_cons_zero, List.getElem?_cons_succ, List.getElem?_nil, List.set_cons_zero, List.set_cons_succ, Option.some.injEq, D.bl.injEq, D.int.injEq, D.tup.injEq, exists_eq_left', exists_eq_left, exists_and_left, true_and, and_true, Nat.reduceAdd, Nat.reduceSub, Nat.zero_add, if_true, if_false, Bool.false_eq_true, reduceCtorEq, decide_eq_true_eq, Nat.reduceEqDiff, m_app, v_list_t]
  have rep : (List.replicate (15 : Int).toNat [D.tup [.int 0, .int many]]).flatten = (List.replicate 15 ((0 : Int), many)).map pD := rfl
  refine ⟨F.lst, s2, s1, ?_⟩
  refine (v_rep (a := [D.tup [.int 0, .int many]]) (by simp) ⟨by decide, by decide, by show 1 * 15 ≤ sizeLine; unfold sizeLine; omega⟩).mpr ?_
  rw [rep]
  refine (v_cat (i := (s ++ [Ob.lst [D.tup [.int 0, .int many]]]).length) (a := (List.replicate 15 ((0 : Int), many)).map pD) (b := ps.map pD) (by rw [List.getElem?_append_left (by simp), List.getElem?_append_right (Nat.le_refl _)]; simp) (by simp)
    (by rw [List.length_map, List.length_map, List.length_replicate]; unfold sizeLine; omega)).mpr ?_
  rw [← List.map_append]
  simp only [m_fn, s_seq, s_if, s_ret, s_asg, s_expr, s_nx, s_bk, s_ct, s_par, s_raise, s_for, g_name, m_op, m_un, m_then, m_callb, m_var, m_c, m_call, m_callk, m_cons, m_nil, m_tup, m_lst, m_new, m_te, m_tand, m_tor, m_tnot, m_if, m_and, m_or, m_comp, v_add, v_sub, v_neg, v_lt, v_le, v_gt, v_ge, v_mod, v_fdiv, v_mul, v_int, v_abs, v_max, v_min, v_isN, v_notN, v_isB, v_not, v_len_t, v_eq_i, v_ne_i, v_eq_b, v_ix_t, wp_pure, wp_ite, List.map_cons, List.map_nil, List.length_cons, List.length_nil, List.replicate, List.append_nil, List.nil_append, List.cons_append, List.getElem?_cons_zero, List.getElem?_cons_succ, List.getElem?_nil, List.set_cons_zero, List.set_cons_succ, Option.some.injEq, D.bl.injEq, D.int.injEq, D.tup.injEq, exists_eq_left', exists_eq_left, exists_and_left, true_and, and_true, Nat.reduceAdd, Nat.reduceSub, Nat.zero_add, if_true, if_false, Bool.false_eq_true, reduceCtorEq, decide_eq_true_eq, Nat.reduceEqDiff, v_sortV, v_tupT]
  refine (v_items_l (xs := (List.replicate 15 ((0 : Int), many) ++ ps).map pD) (by simp)).mpr ?_
  rw [v_sort_p]
  refine ⟨s2, s2, ?_⟩
  refine (F.step hj (((Wk.app.trans .app).trans .app).trans .app)).push hj (by omega) ⟨_, 1, rfl, okJ_two (n := 5) (show okJ j _ 5 (.int many) from trivial) (okJ_ps (n := 2) _), fun r c => chk_1 hm (badW_long (by rw [srtP_len, List.length_append, List.length_replicate]; omega)) c⟩ fun t4 F4 _ => ?_
  clear hW F0 rep
  refine (v_sort_pr ps).mpr ?_
  refine (v_eq_ps (ps := ps) (qs := ps.mergeSort fun a b => leP b a) (by simp) (by simp) not).mpr ?_
  refine ⟨_, rfl, ?_⟩
  have F5 := F4.step hj ((Wk.app (l := [Ob.lst (ps.map pD)])).trans (Wk.app (l := [Ob.lst ((ps.mergeSort fun a b => leP b a).map pD)])))
  split
  case' isTrue c =>
    have cr : ps ≠ ps.mergeSort fun a b => leP b a := by simpa using c
    simp only [m_fn, s_seq, s_if, s_ret, s_asg, s_expr, s_nx, s_bk, s_ct, s_par, s_raise, s_for, g_name, m_op, m_un, m_then, m_callb, m_var, m_c, m_call, m_callk, m_cons, m_nil, m_tup, m_lst, m_new, m_te, m_tand, m_tor, m_tnot, m_if, m_and, m_or, m_comp, v_add, v_sub, v_neg, v_lt, v_le, v_gt, v_ge, v_mod, v_fdiv, v_mul, v_int, v_abs, v_max, v_min, v_isN, v_notN, v_isB, v_not, v_len_t, v_eq_i, v_ne_i, v_eq_b, v_ix_t, wp_pure, wp_ite, List.map_cons, List.map_nil, List.length_cons, List.length_nil, List.replicate, List.append_nil, List.nil_append, List.cons_append, List.getElem?_cons_zero, List.getElem?_cons_succ, List.getElem?_nil, List.set_cons_zero, List.set_cons_succ, Option.some.injEq, D.bl.injEq, D.int.injEq, D.tup.injEq, exists_eq_left', exists_eq_left, exists_and_left, true_and, and_true, Nat.reduceAdd, Nat.reduceSub, Nat.zero_add, if_true, if_false, Bool.false_eq_true, reduceCtorEq, decide_eq_true_eq, Nat.reduceEqDiff, v_revT]
    refine ⟨F5.lst, s2, s2, ?_⟩
    refine F5.push hj (by omega) ⟨_, 1, rfl, okJ_two (n := 5) (show okJ j _ 5 (.int many) from trivial) (show okJ j _ 5 (.tup (ps.map pD).reverse) from fun y hy => okJ_ps (n := 2) ps y (List.mem_reverse.mp hy)), fun r c => chk_1 hm (badW_rev hg.srt cr) c⟩ fun t5 F6 _ => ?_
    clear c cr
  case' isFalse c =>
    have F6 := F5.le (m := 31 + 1) (by omega)
    clear c
  all_goals
    refine sp_take (F6.w.box hb) (by omega) (by omega) fun place t6 q0 q1 w6 => ?_
    have F7 := F6.step hj w6
    refine ⟨F7.lst, ?_⟩
    simp only [m_fn, s_seq, s_if, s_ret, s_asg, s_expr, s_nx, s_bk, s_ct, s_par, s_raise, s_for, g_name, m_op, m_un, m_then, m_callb, m_var, m_c, m_call, m_callk, m_cons, m_nil, m_tup, m_lst, m_new, m_te, m_tand, m_tor, m_tnot, m_if, m_and, m_or, m_comp, v_add, v_sub, v_neg, v_lt, v_le, v_gt, v_ge, v_mod, v_fdiv, v_mul, v_int, v_abs, v_max, v_min, v_isN, v_notN, v_isB, v_not, v_len_t, v_eq_i, v_ne_i, v_eq_b, v_ix_t, wp_pure, wp_ite, List.map_cons, List.map_nil, List.length_cons, List.length_nil, List.replicate, List.append_nil, List.nil_append, List.cons_append, List.getElem?_cons_zero, List.getElem?_cons_succ, List.getElem?_nil, List.set_cons_zero, List.set_cons_succ, Option.some.injEq, D.bl.injEq, D.int.injEq, D.tup.injEq, exists_eq_left', exists_eq_left, exists_and_left, true_and, and_true, Nat.reduceAdd, Nat.reduceSub, Nat.zero_add, if_true, if_false, Bool.false_eq_true, reduceCtorEq, decide_eq_true_eq, Nat.reduceEqDiff, v_walk_t]
    refine comp_pure (t := fun d => !decide (fst? d = place)) (v := id) _ stays_nil (fun d hd => ?_) [] (by rw [List.length_map]; unfold sizeLine; simp; omega) ?_
    case' refine_1 =>
      obtain ⟨p, _, rfl⟩ := List.mem_map.mp hd
      unfold pD
      simp only [m_fn, s_seq, s_if, s_ret, s_asg, s_expr, s_nx, s_bk, s_ct, s_par, s_raise, s_for, g_name, m_op, m_un, m_then, m_callb, m_var, m_c, m_call, m_callk, m_cons, m_nil, m_tup, m_lst, m_new, m_te, m_tand, m_tor, m_tnot, m_if, m_and, m_or, m_comp, v_add, v_sub, v_neg, v_lt, v_le, v_gt, v_ge, v_mod, v_fdiv, v_mul, v_int, v_abs, v_max, v_min, v_isN, v_notN, v_isB, v_not, v_len_t, v_eq_i, v_ne_i, v_eq_b, v_ix_t, wp_pure, wp_ite, List.map_cons, List.map_nil, List.length_cons, List.length_nil, List.replicate, List.append_nil, List.nil_append, List.cons_append, List.getElem?_cons_zero, List.getElem?_cons_succ, List.getElem?_nil, List.set_cons_zero, List.set_cons_succ, Option.some.injEq, D.bl.injEq, D.int.injEq, D.tup.injEq, exists_eq_left', exists_eq_left, exists_and_left, true_and, and_true, Nat.reduceAdd, Nat.reduceSub, Nat.zero_add, if_true, if_false, Bool.false_eq_true, reduceCtorEq, decide_eq_true_eq, Nat.reduceEqDiff, at0, at1, wipeD, List.foldl_cons, List.foldl_nil]
      exact ⟨rfl, fun _ => rfl⟩
    case' refine_2 =>
      have e : (((ps.map pD).filter fun d => !decide (fst? d = place)).map id) = (ps.filter fun p => !decide (p.1 = place)).map pD := by
        rw [List.map_id, List.filter_map]; rfl
      rw [List.nil_append, e]
      refine ⟨s2, s2, ?_⟩
      refine F7.push hj (by omega) ⟨_, 2 + place, rfl, okJ_two (n := 5) (show okJ j _ 5 (.int many) from trivial) (okJ_ps (n := 2) _), fun r c => chk_less hg ⟨q0, q1⟩ c⟩ fun t8 F8 _ => ?_
      refine ⟨F8.lst, s00, s2, s2, ?_⟩
      refine F8.push hj (by omega) ⟨_, 2, rfl, okJ_two (n := 5) (show okJ j _ 5 (.int many) from trivial) (show okJ j _ 5 (.tup []) from fun y hy => nomatch hy), fun r c => chk_empty hm c⟩ fun t9 F9 _ => ?_
      exact k i t9 F9.w (F9.le (by omega))
end
end K78
end part_P78i
section part_P78j
set_option maxHeartbeats 1000000
namespace K78
open PySem Mir
theorem pig : ∀ (n : Nat) (S : List Int), S.Nodup → (∀ v ∈ S, 0 ≤ v ∧ v < n) → S.length ≤ n
  | 0, S, _, h => by
    cases S with
    | nil => exact Nat.le_refl _
    | cons a S =>
      have := h a (List.mem_cons_self ..)
      omega
  | n + 1, S, hn, h => by
    have h1 := pig n (S.erase n) (hn.erase _) (fun v hv => by
      have h1 := (hn.mem_erase_iff).mp hv
      have h2 := h v h1.2
      have h3 := h1.1
      omega)
    by_cases c : (n : Int) ∈ S
    · rw [List.length_erase_of_mem c] at h1
      omega
    · rw [List.erase_of_not_mem c] at h1
      omega
theorem cov : ∀ (n : Nat) (S : List Int), (∀ v : Int, 0 ≤ v → v < n → v ∈ S) → n ≤ S.length
  | 0, S, _ => Nat.zero_le _
  | n + 1, S, h => by
    have c := h n (by omega) (by omega)
    have h1 := cov n (S.erase n) fun v h0 h1 => (List.mem_erase_of_ne (by omega)).mpr (h v h0 (by omega))
    rw [List.length_erase_of_mem c] at h1
    have := List.length_pos_of_mem c
    omega
def addK (S : List Int) (x : Int) : List Int := if x ∈ S then S else S ++ [x]
theorem addK_mem {S : List Int} {x y : Int} : y ∈ addK S x ↔ y ∈ S ∨ y = x := by
  unfold addK
  split
  · rename_i h
    exact ⟨.inl, fun z => z.elim id fun e => e ▸ h⟩
  · simp
theorem addK_nodup {S : List Int} {x : Int} (h : S.Nodup) : (addK S x).Nodup := by
  unfold addK
  split
  · exact h
  · rename_i c
    rw [List.nodup_append]
    refine ⟨h, by simp, fun a ha b hb e => c ?_⟩
    rw [List.mem_singleton.mp hb] at e
    exact e ▸ ha
theorem addK_get {S : List Int} {x : Int} {i : Nat} (h : i < S.length) : (addK S x)[i]? = S[i]? := by
  unfold addK
  split
  · rfl
  · exact List.getElem?_append_left h
theorem addK_len {S : List Int} {x : Int} : S.length ≤ (addK S x).length := by
  unfold addK
  split
  · exact Nat.le_refl _
  · simp
/-- the pit is reached -/
inductive Rch (many : Int) (ps : List PR) : Int → Prop
  | pit : Rch many ps many
  | way {p : PR} : p ∈ ps → Rch many ps p.2 → Rch many ps p.1
/-! ### is_rooted -/
def stepK (S : List Int) (p : PR) : List Int := if p.2 ∈ S then addK S p.1 else S
def turnK (ps : List PR) (S : List Int) : List Int := ps.foldl stepK S
def turns (ps : List PR) : Nat → List Int → List Int
  | 0, S => S
  | n + 1, S => turnK ps (turns ps n S)
structure RS (many : Int) (ps : List PR) (S : List Int) : Prop where
  nd : S.Nodup
  rng : ∀ v ∈ S, 0 ≤ v ∧ v ≤ many
  pit : many ∈ S
  ok : ∀ v ∈ S, Rch many ps v
theorem RS.step {many : Int} {ps : List PR} {S : List Int} {p : PR} (h : RS many ps S) (hp : p ∈ ps) (hw : wayOk many p) : RS many ps (stepK S p) := by
  unfold stepK
  split
  · rename_i c
    refine ⟨addK_nodup h.nd, fun v hv => ?_, addK_mem.mpr (.inl h.pit), fun v hv => ?_⟩
    · rcases addK_mem.mp hv with hv | rfl
      · exact h.rng v hv
      · have := hw.1; omega
    · rcases addK_mem.mp hv with hv | rfl
      · exact h.ok v hv
      · exact .way hp (h.ok _ c)
  · exact h
theorem RS.fold {many : Int} {ps : List PR} (hw : ∀ p ∈ ps, wayOk many p) : ∀ (l : List PR) {S : List Int}, (∀ p ∈ l, p ∈ ps) → RS many ps S → RS many ps (l.foldl stepK S)
  | [], _, _, h => h
  | p :: l, _, hl, h => RS.fold hw l (fun q hq => hl q (List.mem_cons_of_mem _ hq)) (h.step (hl p (List.mem_cons_self ..)) (hw p (hl p (List.mem_cons_self ..))))
theorem RS.turns {many : Int} {ps : List PR} (hm : 0 ≤ many) (hw : ∀ p ∈ ps, wayOk many p) : ∀ n : Nat, RS many ps (turns ps n [many])
  | 0 => ⟨by simp [K78.turns], fun v hv => by rw [List.mem_singleton.mp hv]; omega, List.mem_singleton.mpr rfl, fun v hv => by rw [List.mem_singleton.mp hv]; exact .pit⟩
  | n + 1 => (RS.turns hm hw n).fold hw ps fun _ h => h
theorem step_len {S : List Int} {p : PR} : S.length ≤ (stepK S p).length := by
  unfold stepK
  split
  · exact addK_len
  · exact Nat.le_refl _
theorem fold_len : ∀ (l : List PR) {S : List Int}, S.length ≤ (l.foldl stepK S).length
  | [], _ => Nat.le_refl _
  | _ :: l, _ => Nat.le_trans step_len (fold_len l)
theorem still : ∀ (l : List PR) {S : List Int}, (∀ p ∈ l, p.2 ∈ S → p.1 ∈ S) → l.foldl stepK S = S
  | [], _, _ => rfl
  | p :: l, S, h => by
    have e : stepK S p = S := by
      unfold stepK
      split
      · rename_i c
        unfold addK
        rw [if_pos (h p (List.mem_cons_self ..) c)]
      · rfl
    rw [List.foldl_cons, e]
    exact still l fun q hq => h q (List.mem_cons_of_mem _ hq)
theorem grow : ∀ (l : List PR) {S : List Int}, S.length + 1 ≤ (l.foldl stepK S).length ∨ ∀ p ∈ l, p.2 ∈ S → p.1 ∈ S
  | [], _ => .inr fun _ h => nomatch h
  | p :: l, S => by
    rw [List.foldl_cons]
    by_cases c : p.2 ∈ S ∧ p.1 ∉ S
    · refine .inl (Nat.le_trans ?_ (fold_len l))
      unfold stepK addK
      rw [if_pos c.1, if_neg c.2]
      simp
    · have e : stepK S p = S := by
        unfold stepK
        split
        · rename_i c1
          unfold addK
          by_cases c2 : p.1 ∈ S
          · rw [if_pos c2]
          · exact (c ⟨c1, c2⟩).elim
        · rfl
      rw [e]
      refine (grow l).imp id fun h q hq => ?_
      rcases List.mem_cons.mp hq with rfl | hq
      · intro c1
        by_cases c2 : q.1 ∈ S
        · exact c2
        · exact (c ⟨c1, c2⟩).elim
      · exact h q hq
theorem turns_grow {many : Int} {ps : List PR} : ∀ n : Nat, n + 1 ≤ (turns ps n [many]).length ∨ ∀ p ∈ ps, p.2 ∈ turns ps n [many] → p.1 ∈ turns ps n [many]
  | 0 => .inl (Nat.le_refl _)
  | n + 1 => by
    rcases turns_grow (many := many) (ps := ps) n with h | h
    · rcases grow ps (S := turns ps n [many]) with g | g
      · exact .inl (Nat.le_trans (Nat.succ_le_succ h) g)
      · have e : turns ps (n + 1) [many] = turns ps n [many] := still ps g
        rw [e]
        exact .inr g
    · have e : turns ps (n + 1) [many] = turns ps n [many] := still ps h
      rw [e]
      exact .inr h
theorem rooted_iff {n : Nat} {ps : List PR} (hw : ∀ p ∈ ps, wayOk n p) : (turns ps n [(n : Int)]).length = n + 1 ↔ ∀ v : Int, 0 ≤ v → v < n → Rch n ps v := by
  have R := RS.turns (many := (n : Int)) (by omega) hw n
  have all_ : n + 1 ≤ (turns ps n [(n : Int)]).length → ∀ v : Int, 0 ≤ v → v < n → v ∈ turns ps n [(n : Int)] := fun h v h0 h1 => by
    by_cases c : v ∈ turns ps n [(n : Int)]
    · exact c
    · have := pig (n + 1) (v :: turns ps n [(n : Int)]) (List.nodup_cons.mpr ⟨c, R.nd⟩) (fun u hu => by
        rcases List.mem_cons.mp hu with rfl | hu
        · omega
        · have := R.rng u hu; omega)
      rw [List.length_cons] at this
      omega
  have top := pig (n + 1) _ R.nd (fun u hu => by have := R.rng u hu; omega)
  constructor
  · intro h v h0 h1
    exact R.ok v (all_ (by omega) v h0 h1)
  · intro h
    rcases turns_grow (many := (n : Int)) (ps := ps) n with g | g
    · omega
    · have hr : ∀ v : Int, Rch n ps v → v ∈ turns ps n [(n : Int)] := fun v r => by
        induction r with
        | pit => exact R.pit
        | way hp _ ih => exact g _ hp ih
      have := cov (n + 1) (turns ps n [(n : Int)]) fun v h0 h1 => by
        by_cases c : v = n
        · rw [c]; exact R.pit
        · exact hr v (h v h0 (by omega))
      omega
/-! ### the law's own -/
theorem fold_mem : ∀ (gs : List Int) {L : List Int} {y : Int}, y ∈ gs.foldl addK L ↔ y ∈ L ∨ y ∈ gs
  | [], _, _ => by simp
  | g :: gs, L, y => by
    rw [List.foldl_cons, fold_mem gs, addK_mem, List.mem_cons, or_assoc]
theorem fold_nodup : ∀ (gs : List Int) {L : List Int}, L.Nodup → (gs.foldl addK L).Nodup
  | [], _, h => h
  | _ :: gs, _, h => fold_nodup gs (addK_nodup h)
theorem fold_get : ∀ (gs : List Int) {L : List Int} {i : Nat}, i < L.length → (gs.foldl addK L)[i]? = L[i]?
  | [], _, _, _ => rfl
  | _ :: gs, L, i, h => (fold_get gs (Nat.lt_of_lt_of_le h addK_len)).trans (addK_get h)
def lineK (many : Int) (ps : List PR) (L : List Int) (k : Nat) : List Int := match L[k]? with
  | some v => if v < many then (waysAt ps v).foldl addK L else L
  | none => L
def lines (many : Int) (ps : List PR) (place : Int) : Nat → List Int
  | 0 => [place]
  | n + 1 => lineK many ps (lines many ps place n) n
theorem mem_waysAt {ps : List PR} {k g : Int} : g ∈ waysAt ps k ↔ ∃ p ∈ ps, p.1 = k ∧ p.2 = g := by
  unfold waysAt
  rw [List.mem_map]
  constructor
  · intro ⟨p, h, e⟩
    rw [List.mem_filter] at h
    exact ⟨p, h.1, by simpa using h.2, e⟩
  · intro ⟨p, h, e1, e2⟩
    exact ⟨p, List.mem_filter.mpr ⟨h, by simpa using e1⟩, e2⟩
structure LS (many : Int) (ps : List PR) (place : Int) (L : List Int) (n : Nat) : Prop where
  nd : L.Nodup
  rng : ∀ v ∈ L, 0 ≤ v ∧ v ≤ many
  here : place ∈ L
  ok : ∀ v ∈ L, Rch many ps v → Rch many ps place
  did : ∀ i, i < n → ∀ v, L[i]? = some v → v < many → ∀ g ∈ waysAt ps v, g ∈ L
theorem LS.lines {many place : Int} {ps : List PR} (hp : 0 ≤ place ∧ place < many) (hw : ∀ p ∈ ps, wayOk many p) : ∀ n : Nat, LS many ps place (lines many ps place n) n
  | 0 => ⟨by simp [K78.lines], fun v hv => by rw [List.mem_singleton.mp hv]; omega, List.mem_singleton.mpr rfl, fun v hv => by rw [List.mem_singleton.mp hv]; exact id, fun i hi => nomatch hi⟩
  | n + 1 => by
    have h := LS.lines hp hw n
    show LS many ps place (lineK many ps (K78.lines many ps place n) n) (n + 1)
    generalize K78.lines many ps place n = L at h ⊢
    unfold lineK
    split
    · rename_i v hv
      have hvL : v ∈ L := List.mem_of_getElem? hv
      have hn : n < L.length := (List.getElem?_eq_some_iff.mp hv).1
      split
      · refine ⟨fold_nodup _ h.nd, fun u hu => ?_, (fold_mem _).mpr (.inl h.here), fun u hu => ?_, fun i hi u hu c g hg => ?_⟩
        · rcases (fold_mem _).mp hu with hu | hu
          · exact h.rng u hu
          · obtain ⟨p, hp, e1, rfl⟩ := mem_waysAt.mp hu
            have := (hw p hp).2.1
            omega
        · rcases (fold_mem _).mp hu with hu | hu
          · exact h.ok u hu
          · obtain ⟨p, hp, e1, rfl⟩ := mem_waysAt.mp hu
            exact fun r => h.ok v hvL (e1 ▸ .way hp r)
        · rw [fold_get _ (by omega)] at hu
          by_cases e : i = n
          · subst e
            rw [hv] at hu
            cases hu
            exact (fold_mem _).mpr (.inr hg)
          · exact (fold_mem _).mpr (.inl (h.did i (by omega) u hu c g hg))
      · rename_i c
        refine ⟨h.nd, h.rng, h.here, h.ok, fun i hi u hu c2 => ?_⟩
        by_cases e : i = n
        · subst e
          rw [hv] at hu
          cases hu
          exact (c c2).elim
        · exact h.did i (by omega) u hu c2
    · rename_i hv
      refine ⟨h.nd, h.rng, h.here, h.ok, fun i hi u hu => ?_⟩
      by_cases e : i = n
      · subst e
        rw [hv] at hu
        cases hu
      · exact h.did i (by omega) u hu
theorem line_iff {n : Nat} {place : Int} {ps : List PR} (hp : 0 ≤ place ∧ place < n) (hw : ∀ p ∈ ps, wayOk n p) : (n : Int) ∈ lines n ps place (n + 1) ↔ Rch n ps place := by
  have h := LS.lines hp hw (n + 1)
  have top := pig (n + 1) _ h.nd (fun u hu => by have := h.rng u hu; omega)
  constructor
  · intro z
    exact h.ok _ z .pit
  · intro r
    have key : ∀ v : Int, Rch n ps v → v ∈ lines n ps place (n + 1) → (n : Int) ∈ lines n ps place (n + 1) := fun v r => by
      induction r with
      | pit => exact id
      | way hp _ ih =>
        intro hv
        obtain ⟨i, hi, e⟩ := List.getElem_of_mem hv
        exact ih (h.did i (by omega) _ (by rw [List.getElem?_eq_getElem hi, e]) (hw _ hp).1.2 _ (mem_waysAt.mpr ⟨_, hp, rfl, rfl⟩))
    exact key place r h.here
end K78
end part_P78j
section part_P78k
set_option maxHeartbeats 1000000
namespace Mir
open PySem L2
section
variable {Q : D → Sto → Prop} {QL : List D → Sto → Prop} {E : Exn → Sto → Prop} {st : Sto} {en : En}
theorem m_disp1 {Fa Fb : En → M D} : (fDisp (dCons Fa Fb dNil) en st).Wp Q E ↔ (Fa en st).Wp (fun x s1 => (Fb en s1).Wp (fun y s2 => ∃ k, keyD x = some k ∧ Q (.ref s2.length) (s2 ++ [.dct [(k, y)]])) E) E := by
  unfold fDisp dCons dNil
  rw [wp_bind, wp_bind]
  simp only [wp_bind, wp_pure]
  constructor
  · intro h
    refine wp_mono h (fun x s1 q => ?_) fun _ _ z => z
    refine wp_mono q (fun y s2 q => ?_) fun _ _ z => z
    unfold keysOf keysOf at q
    cases e : keyD x with
    | none => rw [e] at q; exact q.elim
    | some k => rw [e] at q; exact ⟨k, rfl, q⟩
  · intro h
    refine wp_mono h (fun x s1 q => ?_) fun _ _ z => z
    refine wp_mono q (fun y s2 ⟨k, e, q⟩ => ?_) fun _ _ z => z
    unfold keysOf keysOf
    rw [e]
    exact q
theorem v_in_d {f : Bool → Bool} {j : Nat} {x : Int} {kvs : List (Key × D)} (h : st[j]? = some (.dct kvs)) : (gIn f (.int x) (.ref j) st).Wp Q E ↔ Q (.bl (f (lookE kvs (.inl x)).isSome)) st := by
  show (inRef f (.int x) j st).Wp Q E ↔ _
  unfold inRef
  rw [h]
  exact Iff.rfl
theorem v_set_d {j : Nat} {x : Int} {d : D} {kvs : List (Key × D)} {Q : Unit → Sto → Prop} (h : st[j]? = some (.dct kvs)) (hl : kvs.length < sizeLine) : (gSet (.ref j) (.int x) d st).Wp Q E ↔ Q () (st.set j (.dct (putD kvs (.inl x) d))) := by
  show (setOb j (.int x) d st).Wp Q E ↔ _
  unfold setOb
  rw [h]
  show ((if kvs.length < sizeLine then Out.ok () (st.set j (.dct (putD kvs (.inl x) d))) else .bad) : Out Unit).Wp Q E ↔ _
  rw [if_pos hl]
  exact Iff.rfl
theorem py_ints {st : Sto} {n : Nat} : ∀ S : List Int, (S.map D.int).mapM (py st n) = some (S.map PyData.int)
  | [] => rfl
  | i :: S => by
    rw [List.map_cons, List.mapM_cons, py_int, py_ints S]
    rfl
theorem canLay_ints : ∀ S : List Int, PyData.canLayAll0 (S.map PyData.int) = true
  | [] => rfl
  | i :: S => by
    rw [List.map_cons]
    simp only [PyData.canLayAll0, canLay_ints S, PyData.canLay0, Bool.and_true]
theorem depth_ints : ∀ S : List Int, PyData.depthAll (S.map PyData.int) ≤ 0
  | [] => by simp [PyData.depthAll]
  | i :: S => by
    rw [List.map_cons]
    simp only [PyData.depthAll, PyData.depth]
    have := depth_ints S
    simp at this ⊢
    exact this
theorem shaped_ints (S : List Int) : SeqAt.shaped (.list (S.map PyData.int)) = true := by
  have h := depth_ints S
  unfold SeqAt.shaped
  rw [Bool.and_eq_true]
  refine ⟨by simp only [PyData.canLay0]; exact canLay_ints S, decide_eq_true ?_⟩
  simp only [PyData.depth]
  omega
theorem any_ints (x : Int) : ∀ S : List Int, ((S.map PyData.int).any fun z => PyData.eqv z (.int x)) = decide (x ∈ S)
  | [] => by simp
  | i :: S => by
    rw [List.map_cons, List.any_cons, any_ints x S]
    have : PyData.eqv (.int i) (.int x) = decide (x = i) := by
      show (i == x) = _
      rw [Bool.eq_iff_iff]
      simp only [beq_iff_eq, decide_eq_true_eq]
      exact eq_comm
    rw [this, Bool.eq_iff_iff]
    simp
theorem v_in_l {f : Bool → Bool} {j : Nat} {x : Int} {S : List Int} (h : st[j]? = some (.lst (S.map D.int))) : (gIn f (.int x) (.ref j) st).Wp Q E ↔ Q (.bl (f (decide (x ∈ S)))) st := by
  show (inRef f (.int x) j st).Wp Q E ↔ _
  unfold inRef
  rw [h]
  have h1 : py st pyDeep (.ref j) = some (.list (S.map PyData.int)) := py_lst h (py_ints S)
  have h2 : py st pyDeep (.int x) = some (.int x) := py_int
  dsimp only
  rw [h1, h2]
  dsimp only
  rw [if_pos ⟨rfl, shaped_ints S⟩, any_ints]
  exact Iff.rfl
theorem m_callz {n : Nat} {g : List D → M (List D)} {G : En → M (List D)} : (fCallZ n g G en st).Wp QL E ↔ (G en st).Wp (fun ds s1 => ds.length = n ∧ (g ds s1).Wp QL E) E := by
  unfold fCallZ
  rw [wp_bind]
  constructor
  · intro h
    refine wp_mono h (fun ds s1 q => ?_) fun _ _ z => z
    split at q
    · rename_i h
      exact ⟨h, q⟩
    · exact q.elim
  · intro h
    refine wp_mono h (fun ds s1 ⟨h, q⟩ => ?_) fun _ _ z => z
    rw [if_pos h]
    exact q
theorem v_cntA {d : D} : (fCntA [d] st).Wp Q E ↔ Q d st := Iff.rfl
theorem intsD_map : ∀ S : List Int, intsD (S.map D.int) = some S
  | [] => rfl
  | i :: S => by
    rw [List.map_cons]
    unfold intsD
    rw [intsD_map S]
    rfl
theorem v_cntZ {k : Int} {S : List Int} : (fCntZ1 (.int k) (S.map D.int) st).Wp Q E ↔ Q (.int (S.count k : Nat)) st := by
  show (cntL (S.map D.int) k st).Wp Q E ↔ _
  unfold cntL
  rw [intsD_map]
  exact Iff.rfl
theorem v_count {j : Nat} {k : Int} {S : List Int} (h : st[j]? = some (.lst (S.map D.int))) : (gCount (.ref j) [.int k] st).Wp Q E ↔ Q (.int (S.count k : Nat)) st := by
  show ((rdL j >>= fun xs => cntL xs k) st).Wp Q E ↔ _
  rw [wp_bind]
  have : listAt st j = some (S.map D.int) := by unfold listAt; rw [h]
  unfold rdL
  rw [this]
  exact v_cntZ
/-- a dict whose keys alone count -/
def dK (S : List Int) : List (Key × D) := S.map fun i => (.inl i, .bl true)
theorem look_dK (x : Int) (S : List Int) : (lookE (dK S) (.inl x)).isSome = decide (x ∈ S) := by
  unfold lookE dK
  rw [Option.isSome_map, List.find?_map, Option.isSome_map, Bool.eq_iff_iff, List.find?_isSome, decide_eq_true_eq]
  constructor
  · intro ⟨i, hi, e⟩
    have : (Sum.inl i : Key) = Sum.inl x := by simpa using e
    cases this
    exact hi
  · intro h
    exact ⟨x, h, by simp⟩
end
end Mir
namespace K78
open PySem Mir L2
theorem put_dK (x : Int) (S : List Int) : putD (dK S) (.inl x) (.bl true) = dK (addK S x) := by
  unfold putD addK
  have e : ((dK S).any fun kv => decide (kv.1 = .inl x)) = decide (x ∈ S) := by
    unfold dK
    rw [List.any_map, Bool.eq_iff_iff, List.any_eq_true, decide_eq_true_eq]
    constructor
    · intro ⟨i, hi, e⟩
      have : (Sum.inl i : Key) = Sum.inl x := by simpa using e
      cases this
      exact hi
    · intro h
      exact ⟨x, h, by simp⟩
  rw [e]
  by_cases c : x ∈ S
  · rw [if_pos (by simpa using c), if_pos c]
    unfold dK
    rw [List.map_map]
    refine List.map_congr_left fun i _ => ?_
    dsimp only [Function.comp]
    split <;> rfl
  · rw [if_neg (by simpa using c), if_neg c]
    unfold dK
    rw [List.map_append]
    rfl
section
variable {Q : D → Sto → Prop} {E : Exn → Sto → Prop} {st : Sto} {j : Nat}
theorem tup_pair_split {ps : List PR} {a b : List D} {d : D} (h : ps.map pD = a ++ d :: b) : ∃ a' p b', ps = a' ++ p :: b' ∧ a = a'.map pD ∧ d = pD p ∧ b = b'.map pD := by
  obtain ⟨a', r, rfl, rfl, h2⟩ := List.map_eq_append_iff.mp h
  obtain ⟨p, b', rfl, rfl, rfl⟩ := List.map_eq_cons_iff.mp h2
  exact ⟨a', p, b', rfl, rfl, rfl, rfl⟩
theorem turnK_snoc {a : List PR} {p : PR} {S : List Int} : turnK (a ++ [p]) S = stepK (turnK a S) p := by
  unfold turnK
  rw [List.foldl_append]
  rfl
def RJ (j i m k : Nat) (st : Sto) (ps : List PR) (a : List D) (en : En) (s : Sto) : Prop := ∃ l y z, a = List.map pD l ∧ (∀ p ∈ l, p ∈ ps) ∧ en = [some (.tup [.int m, .tup (ps.map pD)]), some (.ref i), some (.int (k : Int)), y, z] ∧ Wk j st s ∧ s[i]? = some (.dct (dK (turnK l (turns ps k [(m : Int)]))))
theorem sp_rooted {many : Int} {ps : List PR} (hj : j < st.length) (hg : Good many ps) (k : ∀ (b : Bool) (s' : Sto), Wk j st s' → (b = true ↔ ∀ v : Int, 0 ≤ v → v < many → Rch many ps v) → Q (.bl b) s') : (g_is_rooted [netD many ps] st).Wp Q E := by
  obtain ⟨m, rfl⟩ := Int.eq_ofNat_of_zero_le (show 0 ≤ many by have := hg.m; omega)
  have hm := hg.m
  have RT := fun n => RS.turns (many := (m : Int)) (by omega) hg.ok n
  unfold g_is_rooted b_is_rooted_
  simp only [m_fn, s_seq, s_if, s_ret, s_asg, s_expr, s_nx, s_bk, s_ct, s_par, s_raise, s_for, g_name, m_op, m_un, m_then, m_callb, m_var, m_c, m_call, m_callk, m_cons, m_nil, m_tup, m_lst, m_new, m_te, m_tand, m_tor, m_tnot, m_if, m_and, m_or, m_comp, v_add, v_sub, v_neg, v_lt, v_le, v_gt, v_ge, v_mod, v_fdiv, v_mul, v_int, v_abs, v_max, v_min, v_isN, v_notN, v_isB, v_not, v_len_t, v_eq_i, v_ne_i, v_eq_b, v_ix_t, wp_pure, wp_ite, List.map_cons, List.map_nil, List.length_cons, List.length_nil, List.replicate, List.append_nil, List.nil_append, List.cons_append, List.getElem?_cons_zero, List.getElem?_cons_succ, List.getElem?_nil, List.set_cons_zero, List.set_cons_succ, Option.some.injEq, D.bl.injEq, D.int.injEq, D.tup.injEq, exists_eq_left', exists_eq_left, exists_and_left, true_and, and_true, Nat.reduceAdd, Nat.reduceSub, Nat.zero_add, if_true, if_false, Bool.false_eq_true, reduceCtorEq, decide_eq_true_eq, Nat.reduceEqDiff]
  unfold netD
  simp only [m_fn, s_seq, s_if, s_ret, s_asg, s_expr, s_nx, s_bk, s_ct, s_par, s_raise, s_for, g_name, m_op, m_un, m_then, m_callb, m_var, m_c, m_call, m_callk, m_cons, m_nil, m_tup, m_lst, m_new, m_te, m_tand, m_tor, m_tnot, m_if, m_and, m_or, m_comp, v_add, v_sub, v_neg, v_lt, v_le, v_gt, v_ge, v_mod, v_fdiv, v_mul, v_int, v_abs, v_max, v_min, v_isN, v_notN, v_isB, v_not, v_len_t, v_eq_i, v_ne_i, v_eq_b, v_ix_t, wp_pure, wp_ite, List.map_cons, List.map_nil, List.length_cons, List.length_nil, List.replicate, List.append_nil, List.nil_append, List.cons_append, List.getElem?_cons_zero, List.getElem?_cons_succ, List.getElem?_nil, List.set_cons_zero, List.set_cons_succ, Option.some.injEq, D.bl.injEq, D.int.injEq, D.tup.injEq, exists_eq_left', exists_eq_left, exists_and_left, true_and, and_true, Nat.reduceAdd, Nat.reduceSub, Nat.zero_add, if_true, if_false, Bool.false_eq_true, reduceCtorEq, decide_eq_true_eq, Nat.reduceEqDiff, m_disp1, at0]
  refine ⟨_, rfl, ?_⟩
  rw [v_range1 (by omega)]
  refine for_inv (J := fun a b en s => ∃ x y z, en = [some (.tup [.int m, .tup (ps.map pD)]), some (.ref st.length), x, y, z] ∧ Wk j st s ∧ s[st.length]? = some (.dct (dK (turns ps a.length [(m : Int)]))))
    ⟨_, _, _, rfl, .app, by simp [dK, turns]⟩ (fun _ _ _ _ _ => stays_nil) (fun a d b en s e ⟨x, y, z, ee, w, h⟩ => ?_) (fun en s ⟨x, y, z, ee, w, h⟩ => ?_)
  · subst ee
    obtain ⟨rfl, ha⟩ := rng_split e
    simp only [m_fn, s_seq, s_if, s_ret, s_asg, s_expr, s_nx, s_bk, s_ct, s_par, s_raise, s_for, g_name, m_op, m_un, m_then, m_callb, m_var, m_c, m_call, m_callk, m_cons, m_nil, m_tup, m_lst, m_new, m_te, m_tand, m_tor, m_tnot, m_if, m_and, m_or, m_comp, v_add, v_sub, v_neg, v_lt, v_le, v_gt, v_ge, v_mod, v_fdiv, v_mul, v_int, v_abs, v_max, v_min, v_isN, v_notN, v_isB, v_not, v_len_t, v_eq_i, v_ne_i, v_eq_b, v_ix_t, wp_pure, wp_ite, List.map_cons, List.map_nil, List.length_cons, List.length_nil, List.replicate, List.append_nil, List.nil_append, List.cons_append, List.getElem?_cons_zero, List.getElem?_cons_succ, List.getElem?_nil, List.set_cons_zero, List.set_cons_succ, Option.some.injEq, D.bl.injEq, D.int.injEq, D.tup.injEq, exists_eq_left', exists_eq_left, exists_and_left, true_and, and_true, Nat.reduceAdd, Nat.reduceSub, Nat.zero_add, if_true, if_false, Bool.false_eq_true, reduceCtorEq, decide_eq_true_eq, Nat.reduceEqDiff, at1, v_walk_t]
    refine for_inv (J := fun a1 b1 en s => RJ j st.length m a.length st ps a1 en s)
      ⟨[], _, _, rfl, fun _ h => (nomatch h), rfl, w, h⟩ (fun _ _ _ _ _ => stays_nil) (fun a1 d b1 en s e1 ⟨l, y, z, el, hl, ee, w, h⟩ => ?_) (fun en s ⟨l, y, z, el, hl, ee, w, h⟩ => ?_)
    · subst ee
      obtain ⟨l2, p, r2, e2, e3, rfl, _⟩ := tup_pair_split e1
      have hp : p ∈ ps := by rw [e2]; simp
      have R : RS m ps (turnK l (turns ps a.length [(m : Int)])) := (RT _).fold hg.ok l hl
      have top := pig (m + 1) _ R.nd (fun u hu => by have := R.rng u hu; omega)
      unfold pD
      simp only [m_fn, s_seq, s_if, s_ret, s_asg, s_expr, s_nx, s_bk, s_ct, s_par, s_raise, s_for, g_name, m_op, m_un, m_then, m_callb, m_var, m_c, m_call, m_callk, m_cons, m_nil, m_tup, m_lst, m_new, m_te, m_tand, m_tor, m_tnot, m_if, m_and, m_or, m_comp, v_add, v_sub, v_neg, v_lt, v_le, v_gt, v_ge, v_mod, v_fdiv, v_mul, v_int, v_abs, v_max, v_min, v_isN, v_notN, v_isB, v_not, v_len_t, v_eq_i, v_ne_i, v_eq_b, v_ix_t, wp_pure, wp_ite, List.map_cons, List.map_nil, List.length_cons, List.length_nil, List.replicate, List.append_nil, List.nil_append, List.cons_append, List.getElem?_cons_zero, List.getElem?_cons_succ, List.getElem?_nil, List.set_cons_zero, List.set_cons_succ, Option.some.injEq, D.bl.injEq, D.int.injEq, D.tup.injEq, exists_eq_left', exists_eq_left, exists_and_left, true_and, and_true, Nat.reduceAdd, Nat.reduceSub, Nat.zero_add, if_true, if_false, Bool.false_eq_true, reduceCtorEq, decide_eq_true_eq, Nat.reduceEqDiff, g_tup, g_cons, g_nil, v_in_d h, look_dK, id]
      have snoc : turnK (l ++ [p]) (turns ps a.length [(m : Int)]) = stepK (turnK l (turns ps a.length [(m : Int)])) p := turnK_snoc
      have ea : a1 ++ [D.tup [D.int p.1, D.int p.2]] = List.map pD (l ++ [p]) := by rw [el, List.map_append]; rfl
      have hl2 : ∀ q ∈ l ++ [p], q ∈ ps := fun q hq => by
        rcases List.mem_append.mp hq with hq | hq
        · exact hl q hq
        · rw [List.mem_singleton.mp hq]; exact hp
      split
      · rename_i c
        simp only [m_fn, s_seq, s_if, s_ret, s_asg, s_expr, s_nx, s_bk, s_ct, s_par, s_raise, s_for, g_name, m_op, m_un, m_then, m_callb, m_var, m_c, m_call, m_callk, m_cons, m_nil, m_tup, m_lst, m_new, m_te, m_tand, m_tor, m_tnot, m_if, m_and, m_or, m_comp, v_add, v_sub, v_neg, v_lt, v_le, v_gt, v_ge, v_mod, v_fdiv, v_mul, v_int, v_abs, v_max, v_min, v_isN, v_notN, v_isB, v_not, v_len_t, v_eq_i, v_ne_i, v_eq_b, v_ix_t, wp_pure, wp_ite, List.map_cons, List.map_nil, List.length_cons, List.length_nil, List.replicate, List.append_nil, List.nil_append, List.cons_append, List.getElem?_cons_zero, List.getElem?_cons_succ, List.getElem?_nil, List.set_cons_zero, List.set_cons_succ, Option.some.injEq, D.bl.injEq, D.int.injEq, D.tup.injEq, exists_eq_left', exists_eq_left, exists_and_left, true_and, and_true, Nat.reduceAdd, Nat.reduceSub, Nat.zero_add, if_true, if_false, Bool.false_eq_true, reduceCtorEq, decide_eq_true_eq, Nat.reduceEqDiff, g_sub]
        refine (v_set_d h (by unfold dK; rw [List.length_map]; unfold sizeLine; omega)).mpr ?_
        rw [put_dK]
        have hlt := (List.getElem?_eq_some_iff.mp h).1
        refine ⟨l ++ [p], _, _, ea, hl2, rfl, w.own (Nat.le_refl _) hj, ?_⟩
        rw [List.getElem?_set_self hlt, snoc]
        unfold stepK
        rw [if_pos c]
      · rename_i c
        refine ⟨l ++ [p], _, _, ea, hl2, rfl, w, ?_⟩
        rw [h, snoc]
        unfold stepK
        rw [if_neg c]
    · subst ee
      refine ⟨_, _, _, rfl, w, ?_⟩
      have : l = ps := pDs_inj el.symm
      rw [h, this, List.length_append]
      rfl
  · subst ee
    simp only [m_fn, s_seq, s_if, s_ret, s_asg, s_expr, s_nx, s_bk, s_ct, s_par, s_raise, s_for, g_name, m_op, m_un, m_then, m_callb, m_var, m_c, m_call, m_callk, m_cons, m_nil, m_tup, m_lst, m_new, m_te, m_tand, m_tor, m_tnot, m_if, m_and, m_or, m_comp, v_add, v_sub, v_neg, v_lt, v_le, v_gt, v_ge, v_mod, v_fdiv, v_mul, v_int, v_abs, v_max, v_min, v_isN, v_notN, v_isB, v_not, v_len_t, v_eq_i, v_ne_i, v_eq_b, v_ix_t, wp_pure, wp_ite, List.map_cons, List.map_nil, List.length_cons, List.length_nil, List.replicate, List.append_nil, List.nil_append, List.cons_append, List.getElem?_cons_zero, List.getElem?_cons_succ, List.getElem?_nil, List.set_cons_zero, List.set_cons_succ, Option.some.injEq, D.bl.injEq, D.int.injEq, D.tup.injEq, exists_eq_left', exists_eq_left, exists_and_left, true_and, and_true, Nat.reduceAdd, Nat.reduceSub, Nat.zero_add, if_true, if_false, Bool.false_eq_true, reduceCtorEq, decide_eq_true_eq, Nat.reduceEqDiff, v_len_d h, at0]
    refine k _ s w ?_
    have el : (rngD 0 m).length = m := by unfold rngD; simp
    have : Int.toNat (m : Int) = m := by simp
    rw [decide_eq_true_eq, this, el]
    unfold dK
    rw [List.length_map, ← rooted_iff hg.ok]
    omega
end
end K78
end part_P78k
section part_P78l
set_option maxHeartbeats 1000000
namespace K78
open PySem Mir L2
section
variable {Q : D → Sto → Prop} {E : Exn → Sto → Prop} {st : Sto} {j : Nat}
theorem int_split {S : List Int} {a b : List D} {d : D} (h : S.map D.int = a ++ d :: b) : ∃ a' p b', S = a' ++ p :: b' ∧ a = a'.map D.int ∧ d = D.int p ∧ b = b'.map D.int := by
  obtain ⟨a', r, rfl, rfl, h2⟩ := List.map_eq_append_iff.mp h
  obtain ⟨p, b', rfl, rfl, rfl⟩ := List.map_eq_cons_iff.mp h2
  exact ⟨a', p, b', rfl, rfl, rfl, rfl⟩
theorem ints_inj : ∀ {a b : List Int}, a.map D.int = b.map D.int → a = b
  | [], [], _ => rfl
  | [], _ :: _, h => by cases h
  | _ :: _, [], h => by cases h
  | p :: a, q :: b, h => by
    rw [List.map_cons, List.map_cons, List.cons.injEq] at h
    have h1 : p = q := by have := h.1; simpa using this
    rw [h1, ints_inj h.2]
theorem waysAt_len {ps : List PR} {k : Int} : (waysAt ps k).length ≤ ps.length := by
  unfold waysAt
  rw [List.length_map]
  exact List.length_filter_le _ _
theorem addK_in {S : List Int} {x : Int} (h : x ∈ S) : addK S x = S := if_pos h
theorem addK_out {S : List Int} {x : Int} (h : x ∉ S) : addK S x = S ++ [x] := if_neg h
/-- the line of _law_rooted -/
def LJ (j i k : Nat) (st : Sto) (hd : En) (L : List Int) (en : En) (s : Sto) : Prop := ∃ y, en = hd ++ [some (.ref i), some (.int (k : Int)), y] ∧ Wk j st s ∧ s[i]? = some (.lst (L.map D.int))
def LO (j i : Nat) (st : Sto) (hd : En) (L : List Int) (en : En) (s : Sto) : Prop := ∃ x y, en = hd ++ [some (.ref i), x, y] ∧ Wk j st s ∧ s[i]? = some (.lst (L.map D.int))
def LI (j i k q : Nat) (ws : List Int) (st : Sto) (hd : En) (L : List Int) (a : List D) (en : En) (s : Sto) : Prop := ∃ l : List Int, a = l.map D.int ∧ LJ j i k st hd (l.foldl addK L) en s ∧ s[q]? = some (.lst (ws.map D.int)) ∧ q ≠ i
def LP (j m : Nat) (ps : List PR) (st : Sto) (a : List D) (en : En) (s : Sto) : Prop := ∃ x y z w, en = [some (netD m ps), x, y, z, w] ∧ Wk j st s ∧ ∀ v : Int, 0 ≤ v → v < a.length → Rch m ps v
theorem sp_lrooted {many : Int} {ps : List PR} (hj : j < st.length) (hg : Good many ps) (k : ∀ (b : Bool) (s' : Sto), Wk j st s' → (b = true ↔ ∀ v : Int, 0 ≤ v → v < many → Rch many ps v) → Q (.bl b) s') : (g__law_rooted [netD many ps] st).Wp Q E := by
  obtain ⟨m, rfl⟩ := Int.eq_ofNat_of_zero_le (show 0 ≤ many by have := hg.m; omega)
  have hm := hg.m
  have hl14 := hg.len
  have e0 : L2.atI [D.int (m : Int), D.tup (ps.map pD)] 0 = some (.int m) := at0
  unfold g__law_rooted b__law_rooted_
  simp only [m_fn, s_seq, s_if, s_ret, s_asg, s_expr, s_nx, s_bk, s_ct, s_par, s_raise, s_for, g_name, m_op, m_un, m_then, m_callb, m_var, m_c, m_call, m_callk, m_cons, m_nil, m_tup, m_lst, m_new, m_te, m_tand, m_tor, m_tnot, m_if, m_and, m_or, m_comp, v_add, v_sub, v_neg, v_lt, v_le, v_gt, v_ge, v_mod, v_fdiv, v_mul, v_int, v_abs, v_max, v_min, v_isN, v_notN, v_isB, v_not, v_len_t, v_eq_i, v_ne_i, v_eq_b, v_ix_t, wp_pure, wp_ite, List.map_cons, List.map_nil, List.length_cons, List.length_nil, List.replicate, List.append_nil, List.nil_append, List.cons_append, List.getElem?_cons_zero, List.getElem?_cons_succ, List.getElem?_nil, List.set_cons_zero, List.set_cons_succ, Option.some.injEq, D.bl.injEq, D.int.injEq, D.tup.injEq, exists_eq_left', exists_eq_left, exists_and_left, true_and, and_true, Nat.reduceAdd, Nat.reduceSub, Nat.zero_add, if_true, if_false, Bool.false_eq_true, reduceCtorEq, decide_eq_true_eq, Nat.reduceEqDiff]
  unfold netD
  simp only [m_fn, s_seq, s_if, s_ret, s_asg, s_expr, s_nx, s_bk, s_ct, s_par, s_raise, s_for, g_name, m_op, m_un, m_then, m_callb, m_var, m_c, m_call, m_callk, m_cons, m_nil, m_tup, m_lst, m_new, m_te, m_tand, m_tor, m_tnot, m_if, m_and, m_or, m_comp, v_add, v_sub, v_neg, v_lt, v_le, v_gt, v_ge, v_mod, v_fdiv, v_mul, v_int, v_abs, v_max, v_min, v_isN, v_notN, v_isB, v_not, v_len_t, v_eq_i, v_ne_i, v_eq_b, v_ix_t, wp_pure, wp_ite, List.map_cons, List.map_nil, List.length_cons, List.length_nil, List.replicate, List.append_nil, List.nil_append, List.cons_append, List.getElem?_cons_zero, List.getElem?_cons_succ, List.getElem?_nil, List.set_cons_zero, List.set_cons_succ, Option.some.injEq, D.bl.injEq, D.int.injEq, D.tup.injEq, exists_eq_left', exists_eq_left, exists_and_left, true_and, and_true, Nat.reduceAdd, Nat.reduceSub, Nat.zero_add, if_true, if_false, Bool.false_eq_true, reduceCtorEq, decide_eq_true_eq, Nat.reduceEqDiff, at0]
  rw [v_range1 (by omega)]
  have tm : Int.toNat (m : Int) = m := by simp
  refine for_inv (J := fun a b en s => LP j m ps st a en s) ⟨_, _, _, _, rfl, .refl, fun v h0 h1 => by simp at h1; omega⟩ (fun _ _ _ _ _ => stays_nil) (fun a d b en s e ⟨x, y, z, w, ee, ww, hr⟩ => ?_) (fun en s ⟨x, y, z, w, ee, ww, hr⟩ => ?_)
  · subst ee
    have e2 := rng_split e
    have ed := e2.1
    have ha := e2.2
    clear e2
    subst ed
    have ha : a.length < m := by omega
    unfold netD
    simp only [m_fn, s_seq, s_if, s_ret, s_asg, s_expr, s_nx, s_bk, s_ct, s_par, s_raise, s_for, g_name, m_op, m_un, m_then, m_callb, m_var, m_c, m_call, m_callk, m_cons, m_nil, m_tup, m_lst, m_new, m_te, m_tand, m_tor, m_tnot, m_if, m_and, m_or, m_comp, v_add, v_sub, v_neg, v_lt, v_le, v_gt, v_ge, v_mod, v_fdiv, v_mul, v_int, v_abs, v_max, v_min, v_isN, v_notN, v_isB, v_not, v_len_t, v_eq_i, v_ne_i, v_eq_b, v_ix_t, wp_pure, wp_ite, List.map_cons, List.map_nil, List.length_cons, List.length_nil, List.replicate, List.append_nil, List.nil_append, List.cons_append, List.getElem?_cons_zero, List.getElem?_cons_succ, List.getElem?_nil, List.set_cons_zero, List.set_cons_succ, Option.some.injEq, D.bl.injEq, D.int.injEq, D.tup.injEq, exists_eq_left', exists_eq_left, exists_and_left, true_and, and_true, Nat.reduceAdd, Nat.reduceSub, Nat.zero_add, if_true, if_false, Bool.false_eq_true, reduceCtorEq, decide_eq_true_eq, Nat.reduceEqDiff, at0]
    refine ⟨by unfold sizeLine; omega, ?_⟩
    rw [v_range1 (by omega)]
    have hi : st.length ≤ s.length := ww.le
    generalize hii : s.length = i at hi ⊢
    refine for_inv (J := fun a1 b1 en s => LO j i st [some (netD m ps), some (.int (a.length : Int))] (lines m ps a.length a1.length) en s) ⟨_, _, rfl, ww.trans .app, by rw [← hii]; simp [lines]⟩ (fun _ _ _ _ _ => stays_nil) (fun a1 d b1 en s e1 ⟨y, z, ee, w, h⟩ => ?_) (fun en s ⟨y, z, ee, w, h⟩ => ?_)
    · subst ee
      have e2 := rng_split e1
      have ed := e2.1
      have ha1 := e2.2
      clear e2
      subst ed
      have ha1 : a1.length < m + 1 := by omega
      have LSn := LS.lines (many := (m : Int)) (place := (a.length : Int)) (ps := ps) (by omega) hg.ok a1.length
      have top := pig (m + 1) _ LSn.nd (fun u hu => by have := LSn.rng u hu; omega)
      unfold netD
      simp only [m_fn, s_seq, s_if, s_ret, s_asg, s_expr, s_nx, s_bk, s_ct, s_par, s_raise, s_for, g_name, m_op, m_un, m_then, m_callb, m_var, m_c, m_call, m_callk, m_cons, m_nil, m_tup, m_lst, m_new, m_te, m_tand, m_tor, m_tnot, m_if, m_and, m_or, m_comp, v_add, v_sub, v_neg, v_lt, v_le, v_gt, v_ge, v_mod, v_fdiv, v_mul, v_int, v_abs, v_max, v_min, v_isN, v_notN, v_isB, v_not, v_len_t, v_eq_i, v_ne_i, v_eq_b, v_ix_t, wp_pure, wp_ite, List.map_cons, List.map_nil, List.length_cons, List.length_nil, List.replicate, List.append_nil, List.nil_append, List.cons_append, List.getElem?_cons_zero, List.getElem?_cons_succ, List.getElem?_nil, List.set_cons_zero, List.set_cons_succ, Option.some.injEq, D.bl.injEq, D.int.injEq, D.tup.injEq, exists_eq_left', exists_eq_left, exists_and_left, true_and, and_true, Nat.reduceAdd, Nat.reduceSub, Nat.zero_add, if_true, if_false, Bool.false_eq_true, reduceCtorEq, decide_eq_true_eq, Nat.reduceEqDiff, v_len_l h, v_ix_l h, at0]
      have estep : ∀ (d : D), lines m ps a.length (a1 ++ [d]).length = lineK m ps (lines m ps a.length a1.length) a1.length := fun d => by rw [List.length_append]; rfl
      generalize hLg : lines m ps a.length a1.length = L at h LSn top estep
      rw [List.length_map]
      split
      · rename_i c
        have c : a1.length < L.length := by omega
        refine ⟨D.int L[a1.length], Mir.atI_nat (by simp [c]), ?_⟩
        simp only [m_fn, s_seq, s_if, s_ret, s_asg, s_expr, s_nx, s_bk, s_ct, s_par, s_raise, s_for, g_name, m_op, m_un, m_then, m_callb, m_var, m_c, m_call, m_callk, m_cons, m_nil, m_tup, m_lst, m_new, m_te, m_tand, m_tor, m_tnot, m_if, m_and, m_or, m_comp, v_add, v_sub, v_neg, v_lt, v_le, v_gt, v_ge, v_mod, v_fdiv, v_mul, v_int, v_abs, v_max, v_min, v_isN, v_notN, v_isB, v_not, v_len_t, v_eq_i, v_ne_i, v_eq_b, v_ix_t, wp_pure, wp_ite, List.map_cons, List.map_nil, List.length_cons, List.length_nil, List.replicate, List.append_nil, List.nil_append, List.cons_append, List.getElem?_cons_zero, List.getElem?_cons_succ, List.getElem?_nil, List.set_cons_zero, List.set_cons_succ, Option.some.injEq, D.bl.injEq, D.int.injEq, D.tup.injEq, exists_eq_left', exists_eq_left, exists_and_left, true_and, and_true, Nat.reduceAdd, Nat.reduceSub, Nat.zero_add, if_true, if_false, Bool.false_eq_true, reduceCtorEq, decide_eq_true_eq, Nat.reduceEqDiff]
        split
        · rename_i c2
          refine (v_ix_l h).mpr ⟨D.int L[a1.length], Mir.atI_nat (by simp [c]), ?_⟩
          refine sp_ways (many := m) (by omega) ?_
          generalize hq : s.length = q
          have hqi : q ≠ i := by
            have := (List.getElem?_eq_some_iff.mp h).1
            omega
          have hwq : (s ++ [Ob.lst ((waysAt ps L[a1.length]).map D.int)])[q]? = some (.lst ((waysAt ps L[a1.length]).map D.int)) := by rw [← hq]; simp
          rw [v_walk_l hwq]
          refine for_inv (J := fun a2 b2 en s => LI j i a1.length q (waysAt ps L[a1.length]) st [some (netD m ps), some (.int (a.length : Int))] L a2 en s)
            ⟨[], rfl, ⟨_, rfl, w.trans .app, by rw [List.getElem?_append_left (List.getElem?_eq_some_iff.mp h).1]; exact h⟩, hwq, hqi⟩
            (fun a2 b2 en s ⟨l, _, _, h, _⟩ p hp => by
              rw [List.mem_singleton.mp hp]
              unfold listAt
              rw [h]) (fun a2 d b2 en s e2 ⟨l, el, ⟨y, ee, w, h⟩, hw2, hqi⟩ => ?_) (fun en s ⟨l, el, ⟨y, ee, w, h⟩, hw2, hqi⟩ => ?_)
          · subst ee
            obtain ⟨l2, p, r2, e3, e4, rfl, _⟩ := int_split e2
            have el2 : l = l2 := ints_inj (el.symm.trans e4)
            subst el2
            have foldS : (l ++ [p]).foldl addK L = addK (l.foldl addK L) p := by rw [List.foldl_append]; rfl
            have ea : a2 ++ [D.int p] = (l ++ [p]).map D.int := by rw [el, List.map_append]; rfl
            simp only [m_fn, s_seq, s_if, s_ret, s_asg, s_expr, s_nx, s_bk, s_ct, s_par, s_raise, s_for, g_name, m_op, m_un, m_then, m_callb, m_var, m_c, m_call, m_callk, m_cons, m_nil, m_tup, m_lst, m_new, m_te, m_tand, m_tor, m_tnot, m_if, m_and, m_or, m_comp, v_add, v_sub, v_neg, v_lt, v_le, v_gt, v_ge, v_mod, v_fdiv, v_mul, v_int, v_abs, v_max, v_min, v_isN, v_notN, v_isB, v_not, v_len_t, v_eq_i, v_ne_i, v_eq_b, v_ix_t, wp_pure, wp_ite, List.map_cons, List.map_nil, List.length_cons, List.length_nil, List.replicate, List.append_nil, List.nil_append, List.cons_append, List.getElem?_cons_zero, List.getElem?_cons_succ, List.getElem?_nil, List.set_cons_zero, List.set_cons_succ, Option.some.injEq, D.bl.injEq, D.int.injEq, D.tup.injEq, exists_eq_left', exists_eq_left, exists_and_left, true_and, and_true, Nat.reduceAdd, Nat.reduceSub, Nat.zero_add, if_true, if_false, Bool.false_eq_true, reduceCtorEq, decide_eq_true_eq, Nat.reduceEqDiff, v_in_l h]
            split
            · rename_i c3
              have c3 : p ∉ l.foldl addK L := by simpa using c3
              have nd := fold_nodup l LSn.nd
              have len : (l.foldl addK L).length ≤ m + 1 := pig (m + 1) _ nd (fun u hu => by
                rcases (fold_mem l).mp hu with hu | hu
                · have := LSn.rng u hu; omega
                · obtain ⟨p, hp, e1, rfl⟩ := mem_waysAt.mp (show u ∈ waysAt ps L[a1.length] by rw [e3]; exact List.mem_append_left _ hu)
                  have := (hg.ok p hp).2.1
                  omega)
              simp only [m_fn, s_seq, s_if, s_ret, s_asg, s_expr, s_nx, s_bk, s_ct, s_par, s_raise, s_for, g_name, m_op, m_un, m_then, m_callb, m_var, m_c, m_call, m_callk, m_cons, m_nil, m_tup, m_lst, m_new, m_te, m_tand, m_tor, m_tnot, m_if, m_and, m_or, m_comp, v_add, v_sub, v_neg, v_lt, v_le, v_gt, v_ge, v_mod, v_fdiv, v_mul, v_int, v_abs, v_max, v_min, v_isN, v_notN, v_isB, v_not, v_len_t, v_eq_i, v_ne_i, v_eq_b, v_ix_t, wp_pure, wp_ite, List.map_cons, List.map_nil, List.length_cons, List.length_nil, List.replicate, List.append_nil, List.nil_append, List.cons_append, List.getElem?_cons_zero, List.getElem?_cons_succ, List.getElem?_nil, List.set_cons_zero, List.set_cons_succ, Option.some.injEq, D.bl.injEq, D.int.injEq, D.tup.injEq, exists_eq_left', exists_eq_left, exists_and_left, true_and, and_true, Nat.reduceAdd, Nat.reduceSub, Nat.zero_add, if_true, if_false, Bool.false_eq_true, reduceCtorEq, decide_eq_true_eq, Nat.reduceEqDiff, m_app]
              refine ⟨ty_ref h, ?_⟩
              rw [v_app h (by rw [List.length_map]; unfold sizeLine; omega)]
              have hlt := (List.getElem?_eq_some_iff.mp h).1
              refine ⟨l ++ [p], ea, ⟨_, rfl, w.own hi hj, ?_⟩, by rw [List.getElem?_set_ne (Ne.symm hqi)]; exact hw2, hqi⟩
              rw [List.getElem?_set_self hlt, foldS, addK_out c3, List.map_append]
              rfl
            · rename_i c3
              have c3 : p ∈ l.foldl addK L := by simpa using c3
              refine ⟨l ++ [p], ea, ⟨_, rfl, w, ?_⟩, hw2, hqi⟩
              rw [h, foldS, addK_in c3]
          · subst ee
            have el2 : l = waysAt ps L[a1.length] := ints_inj el.symm
            refine ⟨_, _, rfl, w, ?_⟩
            rw [h, estep, el2]
            unfold lineK
            rw [List.getElem?_eq_getElem c]
            dsimp only
            rw [if_pos c2]
        · rename_i c2
          refine ⟨_, _, rfl, w, ?_⟩
          rw [h, estep]
          unfold lineK
          rw [List.getElem?_eq_getElem c]
          dsimp only
          rw [if_neg c2]
      · rename_i c
        refine ⟨_, _, rfl, w, ?_⟩
        rw [h, estep]
        unfold lineK
        rw [List.getElem?_eq_none (by omega)]
    · subst ee
      have el : (rngD 0 ((m : Int) + 1).toNat).length = m + 1 := by unfold rngD; simp
      rw [el] at h
      unfold netD
      simp only [m_fn, s_seq, s_if, s_ret, s_asg, s_expr, s_nx, s_bk, s_ct, s_par, s_raise, s_for, g_name, m_op, m_un, m_then, m_callb, m_var, m_c, m_call, m_callk, m_cons, m_nil, m_tup, m_lst, m_new, m_te, m_tand, m_tor, m_tnot, m_if, m_and, m_or, m_comp, v_add, v_sub, v_neg, v_lt, v_le, v_gt, v_ge, v_mod, v_fdiv, v_mul, v_int, v_abs, v_max, v_min, v_isN, v_notN, v_isB, v_not, v_len_t, v_eq_i, v_ne_i, v_eq_b, v_ix_t, wp_pure, wp_ite, List.map_cons, List.map_nil, List.length_cons, List.length_nil, List.replicate, List.append_nil, List.nil_append, List.cons_append, List.getElem?_cons_zero, List.getElem?_cons_succ, List.getElem?_nil, List.set_cons_zero, List.set_cons_succ, Option.some.injEq, D.bl.injEq, D.int.injEq, D.tup.injEq, exists_eq_left', exists_eq_left, exists_and_left, true_and, and_true, Nat.reduceAdd, Nat.reduceSub, Nat.zero_add, if_true, if_false, Bool.false_eq_true, reduceCtorEq, decide_eq_true_eq, Nat.reduceEqDiff, at0, v_in_l h]
      have li := line_iff (n := m) (place := (a.length : Int)) (ps := ps) (by omega) hg.ok
      split
      · rename_i c
        refine k false s w ⟨fun z => (nomatch z), fun z => ?_⟩
        have c : ¬ (m : Int) ∈ lines m ps a.length (m + 1) := by simpa using c
        exact (c (li.mpr (z _ (by omega) (by omega)))).elim
      · rename_i c
        have c : (m : Int) ∈ lines m ps a.length (m + 1) := by simpa using c
        refine ⟨_, _, _, _, rfl, w, fun v h0 h1 => ?_⟩
        rw [List.length_append, List.length_singleton] at h1
        by_cases ev : v = a.length
        · rw [ev]; exact li.mp c
        · exact hr v h0 (by omega)
  · subst ee
    simp only [m_fn, s_seq, s_if, s_ret, s_asg, s_expr, s_nx, s_bk, s_ct, s_par, s_raise, s_for, g_name, m_op, m_un, m_then, m_callb, m_var, m_c, m_call, m_callk, m_cons, m_nil, m_tup, m_lst, m_new, m_te, m_tand, m_tor, m_tnot, m_if, m_and, m_or, m_comp, v_add, v_sub, v_neg, v_lt, v_le, v_gt, v_ge, v_mod, v_fdiv, v_mul, v_int, v_abs, v_max, v_min, v_isN, v_notN, v_isB, v_not, v_len_t, v_eq_i, v_ne_i, v_eq_b, v_ix_t, wp_pure, wp_ite, List.map_cons, List.map_nil, List.length_cons, List.length_nil, List.replicate, List.append_nil, List.nil_append, List.cons_append, List.getElem?_cons_zero, List.getElem?_cons_succ, List.getElem?_nil, List.set_cons_zero, List.set_cons_succ, Option.some.injEq, D.bl.injEq, D.int.injEq, D.tup.injEq, exists_eq_left', exists_eq_left, exists_and_left, true_and, and_true, Nat.reduceAdd, Nat.reduceSub, Nat.zero_add, if_true, if_false, Bool.false_eq_true, reduceCtorEq, decide_eq_true_eq, Nat.reduceEqDiff]
    have el : (rngD 0 (m : Int).toNat).length = m := by unfold rngD; simp
    rw [el] at hr
    exact k true s ww ⟨fun _ => hr, fun _ => rfl⟩
end
end K78
end part_P78l
section part_P78m
set_option maxHeartbeats 1000000
namespace K78
open PySem Mir L2
section
variable {Q : D → Sto → Prop} {E : Exn → Sto → Prop} {st : Sto} {j : Nat}
def cnt (ps : List PR) (a b : Int) : Nat := (waysAt ps a).count b
theorem v_ix_n0 {many : Int} {ps : List PR} : (gIdx (netD many ps) (.int 0) st).Wp Q E ↔ Q (.int many) st := by
  unfold netD
  simp only [m_fn, s_seq, s_if, s_ret, s_asg, s_expr, s_nx, s_bk, s_ct, s_par, s_raise, s_for, g_name, m_op, m_un, m_then, m_callb, m_var, m_c, m_call, m_callk, m_cons, m_nil, m_tup, m_lst, m_new, m_te, m_tand, m_tor, m_tnot, m_if, m_and, m_or, m_comp, v_add, v_sub, v_neg, v_lt, v_le, v_gt, v_ge, v_mod, v_fdiv, v_mul, v_int, v_abs, v_max, v_min, v_isN, v_notN, v_isB, v_not, v_len_t, v_eq_i, v_ne_i, v_eq_b, v_ix_t, wp_pure, wp_ite, List.map_cons, List.map_nil, List.length_cons, List.length_nil, List.replicate, List.append_nil, List.nil_append, List.cons_append, List.getElem?_cons_zero, List.getElem?_cons_succ, List.getElem?_nil, List.set_cons_zero, List.set_cons_succ, Option.some.injEq, D.bl.injEq, D.int.injEq, D.tup.injEq, exists_eq_left', exists_eq_left, exists_and_left, true_and, and_true, Nat.reduceAdd, Nat.reduceSub, Nat.zero_add, if_true, if_false, Bool.false_eq_true, reduceCtorEq, decide_eq_true_eq, Nat.reduceEqDiff, at0]
theorem v_ix_n1 {many : Int} {ps : List PR} : (gIdx (netD many ps) (.int 1) st).Wp Q E ↔ Q (.tup (ps.map pD)) st := by
  unfold netD
  simp only [m_fn, s_seq, s_if, s_ret, s_asg, s_expr, s_nx, s_bk, s_ct, s_par, s_raise, s_for, g_name, m_op, m_un, m_then, m_callb, m_var, m_c, m_call, m_callk, m_cons, m_nil, m_tup, m_lst, m_new, m_te, m_tand, m_tor, m_tnot, m_if, m_and, m_or, m_comp, v_add, v_sub, v_neg, v_lt, v_le, v_gt, v_ge, v_mod, v_fdiv, v_mul, v_int, v_abs, v_max, v_min, v_isN, v_notN, v_isB, v_not, v_len_t, v_eq_i, v_ne_i, v_eq_b, v_ix_t, wp_pure, wp_ite, List.map_cons, List.map_nil, List.length_cons, List.length_nil, List.replicate, List.append_nil, List.nil_append, List.cons_append, List.getElem?_cons_zero, List.getElem?_cons_succ, List.getElem?_nil, List.set_cons_zero, List.set_cons_succ, Option.some.injEq, D.bl.injEq, D.int.injEq, D.tup.injEq, exists_eq_left', exists_eq_left, exists_and_left, true_and, and_true, Nat.reduceAdd, Nat.reduceSub, Nat.zero_add, if_true, if_false, Bool.false_eq_true, reduceCtorEq, decide_eq_true_eq, Nat.reduceEqDiff, at1]
def MO (m : Nat) (ps : List PR) (st : Sto) (a : List D) (en : En) (s : Sto) : Prop := s = st ∧ ∃ x y, en = [some (netD m ps), x, y] ∧ ∀ u v : Nat, u < a.length → v < u → cnt ps u v = cnt ps v u
def MI (m k : Nat) (ps : List PR) (st : Sto) (a : List D) (en : En) (s : Sto) : Prop := s = st ∧ ∃ y, en = [some (netD m ps), some (.int (k : Int)), y] ∧ ∀ v : Nat, v < a.length → cnt ps k v = cnt ps v k
theorem sp_mutualQ {m : Nat} {ps : List PR} (hg : Good m ps) (k : ∀ b : Bool, (b = true ↔ ∀ u v : Nat, u < m → v < u → cnt ps u v = cnt ps v u) → Q (.bl b) st) : (g_is_mutual [netD m ps] st).Wp Q E := by
  have hm := hg.m
  have hl14 := hg.len
  unfold g_is_mutual b_is_mutual_
  simp only [m_fn, s_seq, s_if, s_ret, s_asg, s_expr, s_nx, s_bk, s_ct, s_par, s_raise, s_for, g_name, m_op, m_un, m_then, m_callb, m_var, m_c, m_call, m_callk, m_cons, m_nil, m_tup, m_lst, m_new, m_te, m_tand, m_tor, m_tnot, m_if, m_and, m_or, m_comp, v_add, v_sub, v_neg, v_lt, v_le, v_gt, v_ge, v_mod, v_fdiv, v_mul, v_int, v_abs, v_max, v_min, v_isN, v_notN, v_isB, v_not, v_len_t, v_eq_i, v_ne_i, v_eq_b, v_ix_t, wp_pure, wp_ite, List.map_cons, List.map_nil, List.length_cons, List.length_nil, List.replicate, List.append_nil, List.nil_append, List.cons_append, List.getElem?_cons_zero, List.getElem?_cons_succ, List.getElem?_nil, List.set_cons_zero, List.set_cons_succ, Option.some.injEq, D.bl.injEq, D.int.injEq, D.tup.injEq, exists_eq_left', exists_eq_left, exists_and_left, true_and, and_true, Nat.reduceAdd, Nat.reduceSub, Nat.zero_add, if_true, if_false, Bool.false_eq_true, reduceCtorEq, decide_eq_true_eq, Nat.reduceEqDiff, v_ix_n0]
  rw [v_range1 (by omega)]
  refine for_inv (J := fun a b en s => MO m ps st a en s) ⟨rfl, _, _, rfl, fun u v h => nomatch h⟩ (fun _ _ _ _ _ => stays_nil) (fun a d b en s e ⟨es, x, y, ee, hr⟩ => ?_) (fun en s ⟨es, x, y, ee, hr⟩ => ?_)
  · subst es ee
    have e2 := rng_split e
    have ed := e2.1
    have ha := e2.2
    clear e2
    subst ed
    simp only [m_fn, s_seq, s_if, s_ret, s_asg, s_expr, s_nx, s_bk, s_ct, s_par, s_raise, s_for, g_name, m_op, m_un, m_then, m_callb, m_var, m_c, m_call, m_callk, m_cons, m_nil, m_tup, m_lst, m_new, m_te, m_tand, m_tor, m_tnot, m_if, m_and, m_or, m_comp, v_add, v_sub, v_neg, v_lt, v_le, v_gt, v_ge, v_mod, v_fdiv, v_mul, v_int, v_abs, v_max, v_min, v_isN, v_notN, v_isB, v_not, v_len_t, v_eq_i, v_ne_i, v_eq_b, v_ix_t, wp_pure, wp_ite, List.map_cons, List.map_nil, List.length_cons, List.length_nil, List.replicate, List.append_nil, List.nil_append, List.cons_append, List.getElem?_cons_zero, List.getElem?_cons_succ, List.getElem?_nil, List.set_cons_zero, List.set_cons_succ, Option.some.injEq, D.bl.injEq, D.int.injEq, D.tup.injEq, exists_eq_left', exists_eq_left, exists_and_left, true_and, and_true, Nat.reduceAdd, Nat.reduceSub, Nat.zero_add, if_true, if_false, Bool.false_eq_true, reduceCtorEq, decide_eq_true_eq, Nat.reduceEqDiff]
    rw [v_range1 (by omega)]
    refine for_inv (J := fun a1 b1 en s1 => MI m a.length ps s a1 en s1) ⟨rfl, _, rfl, fun v h => nomatch h⟩ (fun _ _ _ _ _ => stays_nil) (fun a1 d1 b1 en s1 e1 ⟨es, y1, ee, hr1⟩ => ?_) (fun en s1 ⟨es, y1, ee, hr1⟩ => ?_)
    · subst es ee
      have e2 := rng_split e1
      have ed := e2.1
      have ha1 := e2.2
      clear e2
      subst ed
      simp only [m_fn, s_seq, s_if, s_ret, s_asg, s_expr, s_nx, s_bk, s_ct, s_par, s_raise, s_for, g_name, m_op, m_un, m_then, m_callb, m_var, m_c, m_call, m_callk, m_cons, m_nil, m_tup, m_lst, m_new, m_te, m_tand, m_tor, m_tnot, m_if, m_and, m_or, m_comp, v_add, v_sub, v_neg, v_lt, v_le, v_gt, v_ge, v_mod, v_fdiv, v_mul, v_int, v_abs, v_max, v_min, v_isN, v_notN, v_isB, v_not, v_len_t, v_eq_i, v_ne_i, v_eq_b, v_ix_t, wp_pure, wp_ite, List.map_cons, List.map_nil, List.length_cons, List.length_nil, List.replicate, List.append_nil, List.nil_append, List.cons_append, List.getElem?_cons_zero, List.getElem?_cons_succ, List.getElem?_nil, List.set_cons_zero, List.set_cons_succ, Option.some.injEq, D.bl.injEq, D.int.injEq, D.tup.injEq, exists_eq_left', exists_eq_left, exists_and_left, true_and, and_true, Nat.reduceAdd, Nat.reduceSub, Nat.zero_add, if_true, if_false, Bool.false_eq_true, reduceCtorEq, decide_eq_true_eq, Nat.reduceEqDiff, wp_bind, m_callz]
      refine sz_ways_at (by omega) ?_
      simp only [m_fn, s_seq, s_if, s_ret, s_asg, s_expr, s_nx, s_bk, s_ct, s_par, s_raise, s_for, g_name, m_op, m_un, m_then, m_callb, m_var, m_c, m_call, m_callk, m_cons, m_nil, m_tup, m_lst, m_new, m_te, m_tand, m_tor, m_tnot, m_if, m_and, m_or, m_comp, v_add, v_sub, v_neg, v_lt, v_le, v_gt, v_ge, v_mod, v_fdiv, v_mul, v_int, v_abs, v_max, v_min, v_isN, v_notN, v_isB, v_not, v_len_t, v_eq_i, v_ne_i, v_eq_b, v_ix_t, wp_pure, wp_ite, List.map_cons, List.map_nil, List.length_cons, List.length_nil, List.replicate, List.append_nil, List.nil_append, List.cons_append, List.getElem?_cons_zero, List.getElem?_cons_succ, List.getElem?_nil, List.set_cons_zero, List.set_cons_succ, Option.some.injEq, D.bl.injEq, D.int.injEq, D.tup.injEq, exists_eq_left', exists_eq_left, exists_and_left, true_and, and_true, Nat.reduceAdd, Nat.reduceSub, Nat.zero_add, if_true, if_false, Bool.false_eq_true, reduceCtorEq, decide_eq_true_eq, Nat.reduceEqDiff, wp_bind, v_cntA, v_cntZ]
      refine sz_ways_at (by omega) ?_
      simp only [m_fn, s_seq, s_if, s_ret, s_asg, s_expr, s_nx, s_bk, s_ct, s_par, s_raise, s_for, g_name, m_op, m_un, m_then, m_callb, m_var, m_c, m_call, m_callk, m_cons, m_nil, m_tup, m_lst, m_new, m_te, m_tand, m_tor, m_tnot, m_if, m_and, m_or, m_comp, v_add, v_sub, v_neg, v_lt, v_le, v_gt, v_ge, v_mod, v_fdiv, v_mul, v_int, v_abs, v_max, v_min, v_isN, v_notN, v_isB, v_not, v_len_t, v_eq_i, v_ne_i, v_eq_b, v_ix_t, wp_pure, wp_ite, List.map_cons, List.map_nil, List.length_cons, List.length_nil, List.replicate, List.append_nil, List.nil_append, List.cons_append, List.getElem?_cons_zero, List.getElem?_cons_succ, List.getElem?_nil, List.set_cons_zero, List.set_cons_succ, Option.some.injEq, D.bl.injEq, D.int.injEq, D.tup.injEq, exists_eq_left', exists_eq_left, exists_and_left, true_and, and_true, Nat.reduceAdd, Nat.reduceSub, Nat.zero_add, if_true, if_false, Bool.false_eq_true, reduceCtorEq, decide_eq_true_eq, Nat.reduceEqDiff, wp_bind, v_cntA, v_cntZ]
      split
      · rename_i c
        refine k false ⟨fun z => (nomatch z), fun z => ?_⟩
        have := z a.length a1.length (by omega) (by omega)
        unfold cnt at this
        simp [this] at c
      · rename_i c
        refine ⟨rfl, _, rfl, fun v hv => ?_⟩
        rw [List.length_append, List.length_singleton] at hv
        by_cases ev : v = a1.length
        · rw [ev]
          unfold cnt
          simp at c
          omega
        · exact hr1 v (by omega)
    · subst es ee
      have el : (rngD 0 (Int.toNat (a.length : Int))).length = a.length := by unfold rngD; simp
      rw [el] at hr1
      refine ⟨rfl, _, _, rfl, fun u v hu hv => ?_⟩
      rw [List.length_append, List.length_singleton] at hu
      by_cases ev : u = a.length
      · subst ev
        exact hr1 v hv
      · exact hr u v (by omega) hv
  · subst es ee
    simp only [m_fn, s_seq, s_if, s_ret, s_asg, s_expr, s_nx, s_bk, s_ct, s_par, s_raise, s_for, g_name, m_op, m_un, m_then, m_callb, m_var, m_c, m_call, m_callk, m_cons, m_nil, m_tup, m_lst, m_new, m_te, m_tand, m_tor, m_tnot, m_if, m_and, m_or, m_comp, v_add, v_sub, v_neg, v_lt, v_le, v_gt, v_ge, v_mod, v_fdiv, v_mul, v_int, v_abs, v_max, v_min, v_isN, v_notN, v_isB, v_not, v_len_t, v_eq_i, v_ne_i, v_eq_b, v_ix_t, wp_pure, wp_ite, List.map_cons, List.map_nil, List.length_cons, List.length_nil, List.replicate, List.append_nil, List.nil_append, List.cons_append, List.getElem?_cons_zero, List.getElem?_cons_succ, List.getElem?_nil, List.set_cons_zero, List.set_cons_succ, Option.some.injEq, D.bl.injEq, D.int.injEq, D.tup.injEq, exists_eq_left', exists_eq_left, exists_and_left, true_and, and_true, Nat.reduceAdd, Nat.reduceSub, Nat.zero_add, if_true, if_false, Bool.false_eq_true, reduceCtorEq, decide_eq_true_eq, Nat.reduceEqDiff]
    have el : (rngD 0 (m : Int).toNat).length = m := by unfold rngD; simp
    rw [el] at hr
    exact k true ⟨fun _ => hr, fun _ => rfl⟩
def TO (j m : Nat) (ps : List PR) (st : Sto) (a : List D) (en : En) (s : Sto) : Prop := Wk j st s ∧ ∃ x y, en = [some (netD m ps), x, y] ∧ ∀ u v : Nat, u < a.length → v < m → u ≠ v → cnt ps u v = cnt ps v u
def TI (j m k : Nat) (ps : List PR) (st : Sto) (a : List D) (en : En) (s : Sto) : Prop := Wk j st s ∧ ∃ y, en = [some (netD m ps), some (.int (k : Int)), y] ∧ ∀ v : Nat, v < a.length → k ≠ v → cnt ps k v = cnt ps v k
theorem sp_twice {m : Nat} {ps : List PR} (hg : Good m ps) (k : ∀ (b : Bool) (s' : Sto), Wk j st s' → (b = true ↔ ∀ u v : Nat, u < m → v < m → u ≠ v → cnt ps u v = cnt ps v u) → Q (.bl b) s') : (g__law_twice [netD m ps] st).Wp Q E := by
  have hm := hg.m
  have hl14 := hg.len
  unfold g__law_twice b__law_twice_
  simp only [m_fn, s_seq, s_if, s_ret, s_asg, s_expr, s_nx, s_bk, s_ct, s_par, s_raise, s_for, g_name, m_op, m_un, m_then, m_callb, m_var, m_c, m_call, m_callk, m_cons, m_nil, m_tup, m_lst, m_new, m_te, m_tand, m_tor, m_tnot, m_if, m_and, m_or, m_comp, v_add, v_sub, v_neg, v_lt, v_le, v_gt, v_ge, v_mod, v_fdiv, v_mul, v_int, v_abs, v_max, v_min, v_isN, v_notN, v_isB, v_not, v_len_t, v_eq_i, v_ne_i, v_eq_b, v_ix_t, wp_pure, wp_ite, List.map_cons, List.map_nil, List.length_cons, List.length_nil, List.replicate, List.append_nil, List.nil_append, List.cons_append, List.getElem?_cons_zero, List.getElem?_cons_succ, List.getElem?_nil, List.set_cons_zero, List.set_cons_succ, Option.some.injEq, D.bl.injEq, D.int.injEq, D.tup.injEq, exists_eq_left', exists_eq_left, exists_and_left, true_and, and_true, Nat.reduceAdd, Nat.reduceSub, Nat.zero_add, if_true, if_false, Bool.false_eq_true, reduceCtorEq, decide_eq_true_eq, Nat.reduceEqDiff, v_ix_n0]
  rw [v_range1 (by omega)]
  refine for_inv (J := fun a b en s => TO j m ps st a en s) ⟨.refl, _, _, rfl, fun u v h => nomatch h⟩ (fun _ _ _ _ _ => stays_nil) (fun a d b en s e ⟨w, x, y, ee, hr⟩ => ?_) (fun en s ⟨w, x, y, ee, hr⟩ => ?_)
  · subst ee
    have e2 := rng_split e
    have ed := e2.1
    have ha := e2.2
    clear e2
    subst ed
    simp only [m_fn, s_seq, s_if, s_ret, s_asg, s_expr, s_nx, s_bk, s_ct, s_par, s_raise, s_for, g_name, m_op, m_un, m_then, m_callb, m_var, m_c, m_call, m_callk, m_cons, m_nil, m_tup, m_lst, m_new, m_te, m_tand, m_tor, m_tnot, m_if, m_and, m_or, m_comp, v_add, v_sub, v_neg, v_lt, v_le, v_gt, v_ge, v_mod, v_fdiv, v_mul, v_int, v_abs, v_max, v_min, v_isN, v_notN, v_isB, v_not, v_len_t, v_eq_i, v_ne_i, v_eq_b, v_ix_t, wp_pure, wp_ite, List.map_cons, List.map_nil, List.length_cons, List.length_nil, List.replicate, List.append_nil, List.nil_append, List.cons_append, List.getElem?_cons_zero, List.getElem?_cons_succ, List.getElem?_nil, List.set_cons_zero, List.set_cons_succ, Option.some.injEq, D.bl.injEq, D.int.injEq, D.tup.injEq, exists_eq_left', exists_eq_left, exists_and_left, true_and, and_true, Nat.reduceAdd, Nat.reduceSub, Nat.zero_add, if_true, if_false, Bool.false_eq_true, reduceCtorEq, decide_eq_true_eq, Nat.reduceEqDiff, v_ix_n0]
    rw [v_range1 (by omega)]
    refine for_inv (J := fun a1 b1 en s => TI j m a.length ps st a1 en s) ⟨w, _, rfl, fun v h => nomatch h⟩ (fun _ _ _ _ _ => stays_nil) (fun a1 d1 b1 en s1 e1 ⟨w, y1, ee, hr1⟩ => ?_) (fun en s1 ⟨w, y1, ee, hr1⟩ => ?_)
    · subst ee
      have e2 := rng_split e1
      have ed := e2.1
      have ha1 := e2.2
      clear e2
      subst ed
      simp only [m_fn, s_seq, s_if, s_ret, s_asg, s_expr, s_nx, s_bk, s_ct, s_par, s_raise, s_for, g_name, m_op, m_un, m_then, m_callb, m_var, m_c, m_call, m_callk, m_cons, m_nil, m_tup, m_lst, m_new, m_te, m_tand, m_tor, m_tnot, m_if, m_and, m_or, m_comp, v_add, v_sub, v_neg, v_lt, v_le, v_gt, v_ge, v_mod, v_fdiv, v_mul, v_int, v_abs, v_max, v_min, v_isN, v_notN, v_isB, v_not, v_len_t, v_eq_i, v_ne_i, v_eq_b, v_ix_t, wp_pure, wp_ite, List.map_cons, List.map_nil, List.length_cons, List.length_nil, List.replicate, List.append_nil, List.nil_append, List.cons_append, List.getElem?_cons_zero, List.getElem?_cons_succ, List.getElem?_nil, List.set_cons_zero, List.set_cons_succ, Option.some.injEq, D.bl.injEq, D.int.injEq, D.tup.injEq, exists_eq_left', exists_eq_left, exists_and_left, true_and, and_true, Nat.reduceAdd, Nat.reduceSub, Nat.zero_add, if_true, if_false, Bool.false_eq_true, reduceCtorEq, decide_eq_true_eq, Nat.reduceEqDiff]
      split
      · rename_i c
        simp only [m_fn, s_seq, s_if, s_ret, s_asg, s_expr, s_nx, s_bk, s_ct, s_par, s_raise, s_for, g_name, m_op, m_un, m_then, m_callb, m_var, m_c, m_call, m_callk, m_cons, m_nil, m_tup, m_lst, m_new, m_te, m_tand, m_tor, m_tnot, m_if, m_and, m_or, m_comp, v_add, v_sub, v_neg, v_lt, v_le, v_gt, v_ge, v_mod, v_fdiv, v_mul, v_int, v_abs, v_max, v_min, v_isN, v_notN, v_isB, v_not, v_len_t, v_eq_i, v_ne_i, v_eq_b, v_ix_t, wp_pure, wp_ite, List.map_cons, List.map_nil, List.length_cons, List.length_nil, List.replicate, List.append_nil, List.nil_append, List.cons_append, List.getElem?_cons_zero, List.getElem?_cons_succ, List.getElem?_nil, List.set_cons_zero, List.set_cons_succ, Option.some.injEq, D.bl.injEq, D.int.injEq, D.tup.injEq, exists_eq_left', exists_eq_left, exists_and_left, true_and, and_true, Nat.reduceAdd, Nat.reduceSub, Nat.zero_add, if_true, if_false, Bool.false_eq_true, reduceCtorEq, decide_eq_true_eq, Nat.reduceEqDiff, m_cnt]
        refine sp_ways (by omega) ?_
        refine ⟨ty_ref (by simp; rfl), ?_⟩
        refine (v_count (by simp; rfl)).mpr ?_
        refine sp_ways (by omega) ?_
        refine ⟨ty_ref (by simp; rfl), ?_⟩
        refine (v_count (by simp; rfl)).mpr ?_
        simp only [m_fn, s_seq, s_if, s_ret, s_asg, s_expr, s_nx, s_bk, s_ct, s_par, s_raise, s_for, g_name, m_op, m_un, m_then, m_callb, m_var, m_c, m_call, m_callk, m_cons, m_nil, m_tup, m_lst, m_new, m_te, m_tand, m_tor, m_tnot, m_if, m_and, m_or, m_comp, v_add, v_sub, v_neg, v_lt, v_le, v_gt, v_ge, v_mod, v_fdiv, v_mul, v_int, v_abs, v_max, v_min, v_isN, v_notN, v_isB, v_not, v_len_t, v_eq_i, v_ne_i, v_eq_b, v_ix_t, wp_pure, wp_ite, List.map_cons, List.map_nil, List.length_cons, List.length_nil, List.replicate, List.append_nil, List.nil_append, List.cons_append, List.getElem?_cons_zero, List.getElem?_cons_succ, List.getElem?_nil, List.set_cons_zero, List.set_cons_succ, Option.some.injEq, D.bl.injEq, D.int.injEq, D.tup.injEq, exists_eq_left', exists_eq_left, exists_and_left, true_and, and_true, Nat.reduceAdd, Nat.reduceSub, Nat.zero_add, if_true, if_false, Bool.false_eq_true, reduceCtorEq, decide_eq_true_eq, Nat.reduceEqDiff]
        have w2 := w.trans (.app (l := [Ob.lst ((waysAt ps a.length).map D.int)]))
        have w3 := w2.trans (.app (l := [Ob.lst ((waysAt ps a1.length).map D.int)]))
        split
        · rename_i c2
          refine k false _ w3 ⟨fun z => (nomatch z), fun z => ?_⟩
          have := z a.length a1.length (by omega) (by omega) (by simp at c; omega)
          unfold cnt at this
          simp [this] at c2
        · rename_i c2
          refine ⟨w3, _, rfl, fun v hv hne => ?_⟩
          rw [List.length_append, List.length_singleton] at hv
          by_cases ev : v = a1.length
          · rw [ev]
            unfold cnt
            simp at c2
            omega
          · exact hr1 v (by omega) hne
      · rename_i c
        refine ⟨w, _, rfl, fun v hv hne => ?_⟩
        rw [List.length_append, List.length_singleton] at hv
        by_cases ev : v = a1.length
        · simp at c
          omega
        · exact hr1 v (by omega) hne
    · subst ee
      have el : (rngD 0 (m : Int).toNat).length = m := by unfold rngD; simp
      rw [el] at hr1
      refine ⟨w, _, _, rfl, fun u v hu hv hne => ?_⟩
      rw [List.length_append, List.length_singleton] at hu
      by_cases ev : u = a.length
      · subst ev
        exact hr1 v hv hne
      · exact hr u v (by omega) hv hne
  · subst ee
    simp only [m_fn, s_seq, s_if, s_ret, s_asg, s_expr, s_nx, s_bk, s_ct, s_par, s_raise, s_for, g_name, m_op, m_un, m_then, m_callb, m_var, m_c, m_call, m_callk, m_cons, m_nil, m_tup, m_lst, m_new, m_te, m_tand, m_tor, m_tnot, m_if, m_and, m_or, m_comp, v_add, v_sub, v_neg, v_lt, v_le, v_gt, v_ge, v_mod, v_fdiv, v_mul, v_int, v_abs, v_max, v_min, v_isN, v_notN, v_isB, v_not, v_len_t, v_eq_i, v_ne_i, v_eq_b, v_ix_t, wp_pure, wp_ite, List.map_cons, List.map_nil, List.length_cons, List.length_nil, List.replicate, List.append_nil, List.nil_append, List.cons_append, List.getElem?_cons_zero, List.getElem?_cons_succ, List.getElem?_nil, List.set_cons_zero, List.set_cons_succ, Option.some.injEq, D.bl.injEq, D.int.injEq, D.tup.injEq, exists_eq_left', exists_eq_left, exists_and_left, true_and, and_true, Nat.reduceAdd, Nat.reduceSub, Nat.zero_add, if_true, if_false, Bool.false_eq_true, reduceCtorEq, decide_eq_true_eq, Nat.reduceEqDiff]
    have el : (rngD 0 (m : Int).toNat).length = m := by unfold rngD; simp
    rw [el] at hr
    exact k true s w ⟨fun _ => hr, fun _ => rfl⟩
theorem twice_iff {m : Nat} {ps : List PR} : (∀ u v : Nat, u < m → v < u → cnt ps u v = cnt ps v u) ↔ ∀ u v : Nat, u < m → v < m → u ≠ v → cnt ps u v = cnt ps v u := by
  constructor
  · intro h u v hu hv hne
    by_cases c : v < u
    · exact h u v hu c
    · exact (h v u hv (by omega)).symm
  · intro h u v hu hv
    exact h u v hu (by omega) (by omega)
end
end K78
end part_P78m
section part_P78n
set_option maxHeartbeats 1000000
namespace K78
open PySem Mir L2
section
variable {Q : D → Sto → Prop} {E : Exn → Sto → Prop} {st : Sto} {j : Nat}
theorem v_pow {i j : Int} : (gPow (.int i) (.int j) st).Wp Q E ↔ (0 ≤ j ∧ j ≤ 1000000 ∧ i.natAbs < 2 ^ 64) ∧ Q (.int (i ^ j.toNat)) st := by
  show ((if 0 ≤ j ∧ j ≤ 1000000 ∧ i.natAbs < 2 ^ 64 then _ else _ : M D) st).Wp Q E ↔ _
  split
  · rename_i h; exact ⟨fun q => ⟨h, q⟩, fun q => q.2⟩
  · rename_i h; exact ⟨fun q => q.elim, fun q => (h q.1).elim⟩
theorem atI_ints {ns : List Int} {n : Nat} (h : n < ns.length) : atI (ns.map D.int) (n : Int) = some (.int ns[n]) := Mir.atI_nat (by simp [h])
theorem mulOk_l {i j : Int} (h : -(2 ^ 64) < i ∧ i < 2 ^ 64) : mulOk i j := .inl (.inl h)
theorem sp_box {ns : List Int} {k i : Nat} (hs : st[i]? = some (.ro (ns.map D.int))) (hk : k < 5) (q : ∀ g h : Int, Q (.ref st.length) (st ++ [.lst [.int g, .int h]])) : (g__law_box [.ref i, .int (k : Int)] st).Wp Q E := by
  unfold g__law_box b__law_box_
  simp only [m_fn, s_seq, s_if, s_ret, s_asg, s_expr, s_nx, s_bk, s_ct, s_par, s_raise, s_for, g_name, m_op, m_un, m_then, m_callb, m_var, m_c, m_call, m_callk, m_cons, m_nil, m_tup, m_lst, m_new, m_te, m_tand, m_tor, m_tnot, m_if, m_and, m_or, m_comp, v_add, v_sub, v_neg, v_lt, v_le, v_gt, v_ge, v_mod, v_fdiv, v_mul, v_int, v_abs, v_max, v_min, v_isN, v_notN, v_isB, v_not, v_len_t, v_eq_i, v_ne_i, v_eq_b, v_ix_t, wp_pure, wp_ite, List.map_cons, List.map_nil, List.length_cons, List.length_nil, List.replicate, List.append_nil, List.nil_append, List.cons_append, List.getElem?_cons_zero, List.getElem?_cons_succ, List.getElem?_nil, List.set_cons_zero, List.set_cons_succ, Option.some.injEq, D.bl.injEq, D.int.injEq, D.tup.injEq, exists_eq_left', exists_eq_left, exists_and_left, true_and, and_true, Nat.reduceAdd, Nat.reduceSub, Nat.zero_add, if_true, if_false, Bool.false_eq_true, reduceCtorEq, decide_eq_true_eq, Nat.reduceEqDiff, v_len_r hs]
  refine ⟨mulOk_l (by decide), ?_⟩
  have s2 : 2 ≤ sizeLine := by unfold sizeLine; omega
  have t1 : (0 : Int) < 2147483563 := by decide
  have pw : (0 : Int) ≤ 18 ∧ (18 : Int) ≤ 1000000 ∧ (10 : Int).natAbs < 2 ^ 64 := by decide
  have m1 : ∀ x : Int, mulOk x 54250003 := fun x => mulOk_r (by decide)
  have m2 : ∀ x : Int, mulOk x 91813 := fun x => mulOk_r (by decide)
  have m3 : mulOk 8089 (k : Int) := mulOk_l (by decide)
  rw [List.length_map]
  split
  · rename_i c
    have c : k < ns.length := by omega
    refine (v_ix_r hs).mpr ⟨_, atI_ints c, ?_⟩
    simp only [m_fn, s_seq, s_if, s_ret, s_asg, s_expr, s_nx, s_bk, s_ct, s_par, s_raise, s_for, g_name, m_op, m_un, m_then, m_callb, m_var, m_c, m_call, m_callk, m_cons, m_nil, m_tup, m_lst, m_new, m_te, m_tand, m_tor, m_tnot, m_if, m_and, m_or, m_comp, v_add, v_sub, v_neg, v_lt, v_le, v_gt, v_ge, v_mod, v_fdiv, v_mul, v_int, v_abs, v_max, v_min, v_isN, v_notN, v_isB, v_not, v_len_t, v_eq_i, v_ne_i, v_eq_b, v_ix_t, wp_pure, wp_ite, List.map_cons, List.map_nil, List.length_cons, List.length_nil, List.replicate, List.append_nil, List.nil_append, List.cons_append, List.getElem?_cons_zero, List.getElem?_cons_succ, List.getElem?_nil, List.set_cons_zero, List.set_cons_succ, Option.some.injEq, D.bl.injEq, D.int.injEq, D.tup.injEq, exists_eq_left', exists_eq_left, exists_and_left, true_and, and_true, Nat.reduceAdd, Nat.reduceSub, Nat.zero_add, if_true, if_false, Bool.false_eq_true, reduceCtorEq, decide_eq_true_eq, Nat.reduceEqDiff, v_pow]
    refine ⟨pw, ?_⟩
    (repeat' split) <;> exact ⟨t1, m1 _, m3, t1, s2, q _ _⟩
  · rename_i c
    split
    · rename_i c2
      obtain ⟨n, hn⟩ := Int.eq_ofNat_of_zero_le (Int.emod_nonneg (k : Int) (show (ns.length : Int) ≠ 0 by omega))
      have hlt := Int.emod_lt_of_pos (k : Int) c2
      refine ⟨c2, (v_ix_r hs).mpr ⟨_, by rw [hn]; exact atI_ints (by omega), ?_⟩⟩
      simp only [m_fn, s_seq, s_if, s_ret, s_asg, s_expr, s_nx, s_bk, s_ct, s_par, s_raise, s_for, g_name, m_op, m_un, m_then, m_callb, m_var, m_c, m_call, m_callk, m_cons, m_nil, m_tup, m_lst, m_new, m_te, m_tand, m_tor, m_tnot, m_if, m_and, m_or, m_comp, v_add, v_sub, v_neg, v_lt, v_le, v_gt, v_ge, v_mod, v_fdiv, v_mul, v_int, v_abs, v_max, v_min, v_isN, v_notN, v_isB, v_not, v_len_t, v_eq_i, v_ne_i, v_eq_b, v_ix_t, wp_pure, wp_ite, List.map_cons, List.map_nil, List.length_cons, List.length_nil, List.replicate, List.append_nil, List.nil_append, List.cons_append, List.getElem?_cons_zero, List.getElem?_cons_succ, List.getElem?_nil, List.set_cons_zero, List.set_cons_succ, Option.some.injEq, D.bl.injEq, D.int.injEq, D.tup.injEq, exists_eq_left', exists_eq_left, exists_and_left, true_and, and_true, Nat.reduceAdd, Nat.reduceSub, Nat.zero_add, if_true, if_false, Bool.false_eq_true, reduceCtorEq, decide_eq_true_eq, Nat.reduceEqDiff, v_pow]
      refine ⟨t1, m2 _, pw, ?_⟩
      (repeat' split) <;> exact ⟨t1, m1 _, m3, t1, s2, q _ _⟩
    · simp only [m_fn, s_seq, s_if, s_ret, s_asg, s_expr, s_nx, s_bk, s_ct, s_par, s_raise, s_for, g_name, m_op, m_un, m_then, m_callb, m_var, m_c, m_call, m_callk, m_cons, m_nil, m_tup, m_lst, m_new, m_te, m_tand, m_tor, m_tnot, m_if, m_and, m_or, m_comp, v_add, v_sub, v_neg, v_lt, v_le, v_gt, v_ge, v_mod, v_fdiv, v_mul, v_int, v_abs, v_max, v_min, v_isN, v_notN, v_isB, v_not, v_len_t, v_eq_i, v_ne_i, v_eq_b, v_ix_t, wp_pure, wp_ite, List.map_cons, List.map_nil, List.length_cons, List.length_nil, List.replicate, List.append_nil, List.nil_append, List.cons_append, List.getElem?_cons_zero, List.getElem?_cons_succ, List.getElem?_nil, List.set_cons_zero, List.set_cons_succ, Option.some.injEq, D.bl.injEq, D.int.injEq, D.tup.injEq, exists_eq_left', exists_eq_left, exists_and_left, true_and, and_true, Nat.reduceAdd, Nat.reduceSub, Nat.zero_add, if_true, if_false, Bool.false_eq_true, reduceCtorEq, decide_eq_true_eq, Nat.reduceEqDiff, v_pow]
      refine ⟨pw, ?_⟩
      (repeat' split) <;> exact ⟨t1, m1 _, m3, t1, s2, q _ _⟩
end
end K78
end part_P78n
section part_P78o
set_option maxHeartbeats 1000000
namespace K78
open PySem Mir L2
section
variable {Q : D → Sto → Prop} {E : Exn → Sto → Prop} {st : Sto} {j : Nat}
theorem clean_ps {n : Nat} (ps : List PR) : clean (n + 3) (.tup (ps.map pD)) := fun x hx => by
  obtain ⟨p, _, rfl⟩ := List.mem_map.mp hx
  intro y hy
  rcases List.mem_cons.mp hy with rfl | hy
  · trivial
  · rw [List.mem_singleton.mp hy]; trivial
theorem clean_net {n : Nat} {many : Int} (ps : List PR) : clean (n + 4) (netD many ps) := fun x hx => by
  rcases List.mem_cons.mp hx with rfl | hx
  · trivial
  · rw [List.mem_singleton.mp hx]; exact clean_ps ps
theorem clean_two {n : Nat} {x : Str} {d : D} (hx : PySem.PyData.strOk x = true) (h : clean (n + 1) d) : clean (n + 2) (.tup [.str x, d]) := fun y hy => by
  rcases List.mem_cons.mp hy with rfl | hy
  · exact hx
  · rw [List.mem_singleton.mp hy]; exact h
theorem okJ_net {n : Nat} {many : Int} (ps : List PR) : okJ j st (n + 4) (netD many ps) := okJ_two (n := n + 3) (show okJ j st (n + 3) (.int many) from trivial) (okJ_ps ps)
theorem clean_ints {n : Nat} (xs : List Int) : clean (n + 2) (.tup (xs.map D.int)) := fun x hx => by
  obtain ⟨i, _, rfl⟩ := List.mem_map.mp hx
  trivial
theorem v_tupV_l {i : Nat} {xs : List D} (h : st[i]? = some (.lst xs)) : (gTupV (.ref i) st).Wp Q E ↔ Q (.tup xs) st := by
  show ((rdL i >>= fun xs => pure (D.tup xs)) st).Wp Q E ↔ _
  rw [wp_bind]
  have : listAt st i = some xs := by unfold listAt; rw [h]
  unfold rdL
  rw [this]
  exact Iff.rfl
def J1 (ns : List Int) (en : En) (s : Sto) : Prop := ∃ x1 x2 x3 x4 x5 x6, en = [some (.ref 0), x1, x2, x3, x4, x5, x6] ∧ s[0]? = some (.ro (ns.map D.int))
def J2 (k j : Nat) (s0 : Sto) (en : En) (s : Sto) : Prop := ∃ x3 x4 x5 x6, en = [some (.ref 0), some (.int (k : Int)), some (.ref j), x3, x4, x5, x6] ∧ Wk j s0 s
def J3 (k j i : Nat) (many : Int) (ps : List PR) (xs : List D) (s0 : Sto) (en : En) (s : Sto) : Prop := ∃ x4 x5 x6, en = [some (.ref 0), some (.int (k : Int)), some (.ref j), some (netD many ps), x4, x5, x6] ∧ Wk j s0 s ∧ s[i]? = some (.lst xs) ∧ (∀ x ∈ xs, Ent j s x) ∧ i ≠ j
def J4 (k j : Nat) (many : Int) (ps : List PR) (s0 : Sto) (en : En) (s : Sto) : Prop := ∃ x4 x5 x6, en = [some (.ref 0), some (.int (k : Int)), some (.ref j), some (netD many ps), x4, x5, x6] ∧ Wk j s0 s
theorem told_ok : PySem.PyData.strOk "told" = true := by decide +kernel
theorem refused_ok : PySem.PyData.strOk "refused" = true := by decide +kernel
theorem sp_mutualI {many : Int} {ps : List PR} (hg : Good many ps) (k : ∀ b : Bool, (b = true ↔ ∀ u v : Nat, u < many.toNat → v < u → cnt ps u v = cnt ps v u) → Q (.bl b) st) : (g_is_mutual [netD many ps] st).Wp Q E := by
  have e : ((many.toNat : Nat) : Int) = many := Int.toNat_of_nonneg (by have := hg.m; omega)
  have key := @sp_mutualQ Q E st many.toNat ps
  rw [e] at key
  exact key hg k
theorem sp_twiceI {many : Int} {ps : List PR} (hg : Good many ps) (k : ∀ (b : Bool) (s' : Sto), Wk j st s' → (b = true ↔ ∀ u v : Nat, u < many.toNat → v < many.toNat → u ≠ v → cnt ps u v = cnt ps v u) → Q (.bl b) s') : (g__law_twice [netD many ps] st).Wp Q E := by
  have e : ((many.toNat : Nat) : Int) = many := Int.toNat_of_nonneg (by have := hg.m; omega)
  have key := @sp_twice Q E st j many.toNat ps
  rw [e] at key
  exact key hg k
theorem law_ok {ns : List Int} (hn : ns.length ≤ 63) : (g_law [.ref 0] [.ro (ns.map D.int)]).Wp (fun d _ => d = .bl true) fun _ _ => False := by
  have z2 : 2 ≤ sizeLine := by unfold sizeLine; omega
  unfold g_law b_law_
  simp only [m_fn, s_seq, s_if, s_ret, s_asg, s_expr, s_nx, s_bk, s_ct, s_par, s_raise, s_for, g_name, m_op, m_un, m_then, m_callb, m_var, m_c, m_call, m_callk, m_cons, m_nil, m_tup, m_lst, m_new, m_te, m_tand, m_tor, m_tnot, m_if, m_and, m_or, m_comp, v_add, v_sub, v_neg, v_lt, v_le, v_gt, v_ge, v_mod, v_fdiv, v_mul, v_int, v_abs, v_max, v_min, v_isN, v_notN, v_isB, v_not, v_len_t, v_eq_i, v_ne_i, v_eq_b, v_ix_t, wp_pure, wp_ite, List.map_cons, List.map_nil, List.length_cons, List.length_nil, List.replicate, List.append_nil, List.nil_append, List.cons_append, List.getElem?_cons_zero, List.getElem?_cons_succ, List.getElem?_nil, List.set_cons_zero, List.set_cons_succ, Option.some.injEq, D.bl.injEq, D.int.injEq, D.tup.injEq, exists_eq_left', exists_eq_left, exists_and_left, true_and, and_true, Nat.reduceAdd, Nat.reduceSub, Nat.zero_add, if_true, if_false, Bool.false_eq_true, reduceCtorEq, decide_eq_true_eq, Nat.reduceEqDiff, v_len_r (show ([Ob.ro (ns.map D.int)] : Sto)[0]? = some (.ro (ns.map D.int)) from rfl)]
  generalize hN : (if (if (5 : Int) < ↑(List.map D.int ns).length then (5 : Int) else ↑(List.map D.int ns).length) > 2 then if (5 : Int) < ↑(List.map D.int ns).length then (5 : Int) else ↑(List.map D.int ns).length else 2) = N
  have hN2 : 2 ≤ N ∧ N ≤ 5 := by
    rw [← hN]
    (repeat' split) <;> omega
  clear hN
  obtain ⟨n, rfl⟩ := Int.eq_ofNat_of_zero_le (show 0 ≤ N by omega)
  rw [v_range1 (by omega)]
  refine for_inv (J := fun a b en s => J1 ns en s) ⟨_, _, _, _, _, _, rfl, rfl⟩ (fun _ _ _ _ _ => stays_nil) (fun a d b en s e ⟨x1, x2, x3, x4, x5, x6, ee, hs⟩ => ?_) (fun en s ⟨x1, x2, x3, x4, x5, x6, ee, hs⟩ => ?_)
  · subst ee
    have e2 := rng_split e
    have ed := e2.1
    have ha := e2.2
    clear e2
    subst ed
    simp only [m_fn, s_seq, s_if, s_ret, s_asg, s_expr, s_nx, s_bk, s_ct, s_par, s_raise, s_for, g_name, m_op, m_un, m_then, m_callb, m_var, m_c, m_call, m_callk, m_cons, m_nil, m_tup, m_lst, m_new, m_te, m_tand, m_tor, m_tnot, m_if, m_and, m_or, m_comp, v_add, v_sub, v_neg, v_lt, v_le, v_gt, v_ge, v_mod, v_fdiv, v_mul, v_int, v_abs, v_max, v_min, v_isN, v_notN, v_isB, v_not, v_len_t, v_eq_i, v_ne_i, v_eq_b, v_ix_t, wp_pure, wp_ite, List.map_cons, List.map_nil, List.length_cons, List.length_nil, List.replicate, List.append_nil, List.nil_append, List.cons_append, List.getElem?_cons_zero, List.getElem?_cons_succ, List.getElem?_nil, List.set_cons_zero, List.set_cons_succ, Option.some.injEq, D.bl.injEq, D.int.injEq, D.tup.injEq, exists_eq_left', exists_eq_left, exists_and_left, true_and, and_true, Nat.reduceAdd, Nat.reduceSub, Nat.zero_add, if_true, if_false, Bool.false_eq_true, reduceCtorEq, decide_eq_true_eq, Nat.reduceEqDiff]
    refine sp_box hs (by omega) fun g h => ?_
    have hj0 : s.length ≠ 0 := by
      have := (List.getElem?_eq_some_iff.mp hs).1
      omega
    have hb : Box (s ++ [Ob.lst [D.int g, D.int h]]) s.length := ⟨g, h, by simp⟩
    have hs0 : (s ++ [Ob.lst [D.int g, D.int h]])[0]? = some (.ro (ns.map D.int)) := by
      rw [List.getElem?_append_left (List.getElem?_eq_some_iff.mp hs).1]; exact hs
    generalize s.length = j at hj0 hb ⊢
    generalize s ++ [Ob.lst [D.int g, D.int h]] = s0 at hb hs0 ⊢
    have hj := hb.lt
    refine sp_net hb fun many1 ps1 s1 hg1 w1 => ?_
    refine sp_mutual (w1.box hb) fun many2 ps2 s2 hg2 w2 => ?_
    have w02 := w1.trans w2
    rw [v_walkT]
    refine ⟨z2, ?_⟩
    refine for_inv (J := fun a1 b1 en s => J2 a.length j s0 en s) ⟨_, _, _, _, rfl, w02⟩ (fun _ _ _ _ _ => stays_nil) (fun a1 d b1 en s e1 ⟨x3, x4, x5, x6, ee, w⟩ => ?_) (fun en s ⟨x3, x4, x5, x6, ee, w⟩ => ?_)
    · subst ee
      have hnet : ∃ many ps, d = netD many ps ∧ Good many ps := by
        have : d ∈ [netD many1 ps1, netD many2 ps2] := by
          have e1 : [netD many1 ps1, netD many2 ps2] = a1 ++ d :: b1 := e1
          rw [e1]; simp
        rcases List.mem_cons.mp this with rfl | this
        · exact ⟨_, _, rfl, hg1⟩
        · exact ⟨_, _, List.mem_singleton.mp this, hg2⟩
      obtain ⟨many, ps, rfl, hg⟩ := hnet
      have hm := hg.m
      simp only [m_fn, s_seq, s_if, s_ret, s_asg, s_expr, s_nx, s_bk, s_ct, s_par, s_raise, s_for, g_name, m_op, m_un, m_then, m_callb, m_var, m_c, m_call, m_callk, m_cons, m_nil, m_tup, m_lst, m_new, m_te, m_tand, m_tor, m_tnot, m_if, m_and, m_or, m_comp, v_add, v_sub, v_neg, v_lt, v_le, v_gt, v_ge, v_mod, v_fdiv, v_mul, v_int, v_abs, v_max, v_min, v_isN, v_notN, v_isB, v_not, v_len_t, v_eq_i, v_ne_i, v_eq_b, v_ix_t, wp_pure, wp_ite, List.map_cons, List.map_nil, List.length_cons, List.length_nil, List.replicate, List.append_nil, List.nil_append, List.cons_append, List.getElem?_cons_zero, List.getElem?_cons_succ, List.getElem?_nil, List.set_cons_zero, List.set_cons_succ, Option.some.injEq, D.bl.injEq, D.int.injEq, D.tup.injEq, exists_eq_left', exists_eq_left, exists_and_left, true_and, and_true, Nat.reduceAdd, Nat.reduceSub, Nat.zero_add, if_true, if_false, Bool.false_eq_true, reduceCtorEq, decide_eq_true_eq, Nat.reduceEqDiff]
      refine sp_take (w.box hb) (by decide) (by decide) fun r s3 r0 r1 w3 => ?_
      have w4 := w.trans w3
      simp only [m_fn, s_seq, s_if, s_ret, s_asg, s_expr, s_nx, s_bk, s_ct, s_par, s_raise, s_for, g_name, m_op, m_un, m_then, m_callb, m_var, m_c, m_call, m_callk, m_cons, m_nil, m_tup, m_lst, m_new, m_te, m_tand, m_tor, m_tnot, m_if, m_and, m_or, m_comp, v_add, v_sub, v_neg, v_lt, v_le, v_gt, v_ge, v_mod, v_fdiv, v_mul, v_int, v_abs, v_max, v_min, v_isN, v_notN, v_isB, v_not, v_len_t, v_eq_i, v_ne_i, v_eq_b, v_ix_t, wp_pure, wp_ite, List.map_cons, List.map_nil, List.length_cons, List.length_nil, List.replicate, List.append_nil, List.nil_append, List.cons_append, List.getElem?_cons_zero, List.getElem?_cons_succ, List.getElem?_nil, List.set_cons_zero, List.set_cons_succ, Option.some.injEq, D.bl.injEq, D.int.injEq, D.tup.injEq, exists_eq_left', exists_eq_left, exists_and_left, true_and, and_true, Nat.reduceAdd, Nat.reduceSub, Nat.zero_add, if_true, if_false, Bool.false_eq_true, reduceCtorEq, decide_eq_true_eq, Nat.reduceEqDiff]
      have hJ : okJ j s3 4 (netD many ps) := okJ_net (n := 0) ps
      refine sp_told (okD_of hJ) (okD2_of (n := 1) hJ) (fun l hl => ?_) (fun a l hl => nomatch chk_good hg hl)
      have w5 := w4.trans (.app (l := l))
      refine ⟨z2, ?_⟩
      refine sp_same 8 _ (clean_two (n := 6) told_ok (clean_net (n := 3) ps)) ?_
      simp only [m_fn, s_seq, s_if, s_ret, s_asg, s_expr, s_nx, s_bk, s_ct, s_par, s_raise, s_for, g_name, m_op, m_un, m_then, m_callb, m_var, m_c, m_call, m_callk, m_cons, m_nil, m_tup, m_lst, m_new, m_te, m_tand, m_tor, m_tnot, m_if, m_and, m_or, m_comp, v_add, v_sub, v_neg, v_lt, v_le, v_gt, v_ge, v_mod, v_fdiv, v_mul, v_int, v_abs, v_max, v_min, v_isN, v_notN, v_isB, v_not, v_len_t, v_eq_i, v_ne_i, v_eq_b, v_ix_t, wp_pure, wp_ite, List.map_cons, List.map_nil, List.length_cons, List.length_nil, List.replicate, List.append_nil, List.nil_append, List.cons_append, List.getElem?_cons_zero, List.getElem?_cons_succ, List.getElem?_nil, List.set_cons_zero, List.set_cons_succ, Option.some.injEq, D.bl.injEq, D.int.injEq, D.tup.injEq, exists_eq_left', exists_eq_left, exists_and_left, true_and, and_true, Nat.reduceAdd, Nat.reduceSub, Nat.zero_add, if_true, if_false, Bool.false_eq_true, reduceCtorEq, decide_eq_true_eq, Nat.reduceEqDiff]
      simp only [Bool.not_true, Bool.false_eq_true, if_false]
      refine sp_bent (w5.box hb) hg fun i s4 w6 F => ?_
      have w7 := w5.trans w6
      obtain ⟨xs, exs, _, hxs⟩ := F.at_
      have hij : i ≠ j := by
        have := F.new
        have := (w5.box hb).lt
        omega
      rw [v_walk_l exs]
      refine for_inv (J := fun a2 b2 en s => J3 a.length j i many ps xs s0 en s) ⟨_, _, _, rfl, w7, exs, hxs, hij⟩ (fun a2 b2 en s ⟨_, _, _, _, _, h, _⟩ p hp => by
              rw [List.mem_singleton.mp hp]
              unfold listAt
              rw [h]) (fun a2 d b2 en s e2 ⟨y4, y5, y6, ee, w8, hat, hxs, hij⟩ => ?_) (fun en s ⟨y4, y5, y6, ee, w8, hat, hxs, hij⟩ => ?_)
      · subst ee
        have hd : d ∈ xs := by
          have e2 : xs = a2 ++ d :: b2 := e2
          rw [e2]; simp
        obtain ⟨v, at_, rfl, hv, hc⟩ := hxs d hd
        simp only [m_fn, s_seq, s_if, s_ret, s_asg, s_expr, s_nx, s_bk, s_ct, s_par, s_raise, s_for, g_name, m_op, m_un, m_then, m_callb, m_var, m_c, m_call, m_callk, m_cons, m_nil, m_tup, m_lst, m_new, m_te, m_tand, m_tor, m_tnot, m_if, m_and, m_or, m_comp, v_add, v_sub, v_neg, v_lt, v_le, v_gt, v_ge, v_mod, v_fdiv, v_mul, v_int, v_abs, v_max, v_min, v_isN, v_notN, v_isB, v_not, v_len_t, v_eq_i, v_ne_i, v_eq_b, v_ix_t, wp_pure, wp_ite, List.map_cons, List.map_nil, List.length_cons, List.length_nil, List.replicate, List.append_nil, List.nil_append, List.cons_append, List.getElem?_cons_zero, List.getElem?_cons_succ, List.getElem?_nil, List.set_cons_zero, List.set_cons_succ, Option.some.injEq, D.bl.injEq, D.int.injEq, D.tup.injEq, exists_eq_left', exists_eq_left, exists_and_left, true_and, and_true, Nat.reduceAdd, Nat.reduceSub, Nat.zero_add, if_true, if_false, Bool.false_eq_true, reduceCtorEq, decide_eq_true_eq, Nat.reduceEqDiff, g_tup, g_cons, g_nil]
        refine sp_told (okD_of hv) (okD2_of (n := 3) hv) (fun l hl => nomatch hc _ hl) (fun a3 l hl => ?_)
        have ea := hc _ hl
        cases ea
        have w9 := Wk.app (j := j) (st := s) (l := l)
        refine ⟨z2, ?_⟩
        refine sp_same 8 _ (clean_two (n := 6) refused_ok trivial) ?_
        simp only [m_fn, s_seq, s_if, s_ret, s_asg, s_expr, s_nx, s_bk, s_ct, s_par, s_raise, s_for, g_name, m_op, m_un, m_then, m_callb, m_var, m_c, m_call, m_callk, m_cons, m_nil, m_tup, m_lst, m_new, m_te, m_tand, m_tor, m_tnot, m_if, m_and, m_or, m_comp, v_add, v_sub, v_neg, v_lt, v_le, v_gt, v_ge, v_mod, v_fdiv, v_mul, v_int, v_abs, v_max, v_min, v_isN, v_notN, v_isB, v_not, v_len_t, v_eq_i, v_ne_i, v_eq_b, v_ix_t, wp_pure, wp_ite, List.map_cons, List.map_nil, List.length_cons, List.length_nil, List.replicate, List.append_nil, List.nil_append, List.cons_append, List.getElem?_cons_zero, List.getElem?_cons_succ, List.getElem?_nil, List.set_cons_zero, List.set_cons_succ, Option.some.injEq, D.bl.injEq, D.int.injEq, D.tup.injEq, exists_eq_left', exists_eq_left, exists_and_left, true_and, and_true, Nat.reduceAdd, Nat.reduceSub, Nat.zero_add, if_true, if_false, Bool.false_eq_true, reduceCtorEq, decide_eq_true_eq, Nat.reduceEqDiff]
        simp only [Bool.not_true, Bool.false_eq_true, if_false]
        exact ⟨_, _, _, rfl, w8.trans w9, w9.at hat hij, fun x hx => (hxs x hx).step w9, hij⟩
      · subst ee
        clear hxs hat exs F
        simp only [m_fn, s_seq, s_if, s_ret, s_asg, s_expr, s_nx, s_bk, s_ct, s_par, s_raise, s_for, g_name, m_op, m_un, m_then, m_callb, m_var, m_c, m_call, m_callk, m_cons, m_nil, m_tup, m_lst, m_new, m_te, m_tand, m_tor, m_tnot, m_if, m_and, m_or, m_comp, v_add, v_sub, v_neg, v_lt, v_le, v_gt, v_ge, v_mod, v_fdiv, v_mul, v_int, v_abs, v_max, v_min, v_isN, v_notN, v_isB, v_not, v_len_t, v_eq_i, v_ne_i, v_eq_b, v_ix_t, wp_pure, wp_ite, List.map_cons, List.map_nil, List.length_cons, List.length_nil, List.replicate, List.append_nil, List.nil_append, List.cons_append, List.getElem?_cons_zero, List.getElem?_cons_succ, List.getElem?_nil, List.set_cons_zero, List.set_cons_succ, Option.some.injEq, D.bl.injEq, D.int.injEq, D.tup.injEq, exists_eq_left', exists_eq_left, exists_and_left, true_and, and_true, Nat.reduceAdd, Nat.reduceSub, Nat.zero_add, if_true, if_false, Bool.false_eq_true, reduceCtorEq, decide_eq_true_eq, Nat.reduceEqDiff]
        have hjs : j < s.length := Nat.lt_of_lt_of_le hj w8.le
        refine sp_rooted hjs hg fun b1 s5 w9 i1 => ?_
        refine sp_lrooted (Nat.lt_of_lt_of_le hjs w9.le) hg fun b2 s6 w10 i2 => ?_
        have eb : b1 = b2 := by rw [Bool.eq_iff_iff, i1, i2]
        subst eb
        have w11 := (w8.trans w9).trans w10
        refine sp_same 8 _ (show clean 8 (.bl b1) from trivial) ?_
        simp only [m_fn, s_seq, s_if, s_ret, s_asg, s_expr, s_nx, s_bk, s_ct, s_par, s_raise, s_for, g_name, m_op, m_un, m_then, m_callb, m_var, m_c, m_call, m_callk, m_cons, m_nil, m_tup, m_lst, m_new, m_te, m_tand, m_tor, m_tnot, m_if, m_and, m_or, m_comp, v_add, v_sub, v_neg, v_lt, v_le, v_gt, v_ge, v_mod, v_fdiv, v_mul, v_int, v_abs, v_max, v_min, v_isN, v_notN, v_isB, v_not, v_len_t, v_eq_i, v_ne_i, v_eq_b, v_ix_t, wp_pure, wp_ite, List.map_cons, List.map_nil, List.length_cons, List.length_nil, List.replicate, List.append_nil, List.nil_append, List.cons_append, List.getElem?_cons_zero, List.getElem?_cons_succ, List.getElem?_nil, List.set_cons_zero, List.set_cons_succ, Option.some.injEq, D.bl.injEq, D.int.injEq, D.tup.injEq, exists_eq_left', exists_eq_left, exists_and_left, true_and, and_true, Nat.reduceAdd, Nat.reduceSub, Nat.zero_add, if_true, if_false, Bool.false_eq_true, reduceCtorEq, decide_eq_true_eq, Nat.reduceEqDiff]
        simp only [Bool.not_true, Bool.false_eq_true, if_false]
        refine sp_mutualI hg fun b3 i3 => ?_
        refine sp_twiceI (j := j) hg fun b4 s7 w12 i4 => ?_
        have eb : b3 = b4 := by rw [Bool.eq_iff_iff, i3, i4]; exact twice_iff
        subst eb
        refine sp_same 8 _ (show clean 8 (.bl b3) from trivial) ?_
        simp only [m_fn, s_seq, s_if, s_ret, s_asg, s_expr, s_nx, s_bk, s_ct, s_par, s_raise, s_for, g_name, m_op, m_un, m_then, m_callb, m_var, m_c, m_call, m_callk, m_cons, m_nil, m_tup, m_lst, m_new, m_te, m_tand, m_tor, m_tnot, m_if, m_and, m_or, m_comp, v_add, v_sub, v_neg, v_lt, v_le, v_gt, v_ge, v_mod, v_fdiv, v_mul, v_int, v_abs, v_max, v_min, v_isN, v_notN, v_isB, v_not, v_len_t, v_eq_i, v_ne_i, v_eq_b, v_ix_t, wp_pure, wp_ite, List.map_cons, List.map_nil, List.length_cons, List.length_nil, List.replicate, List.append_nil, List.nil_append, List.cons_append, List.getElem?_cons_zero, List.getElem?_cons_succ, List.getElem?_nil, List.set_cons_zero, List.set_cons_succ, Option.some.injEq, D.bl.injEq, D.int.injEq, D.tup.injEq, exists_eq_left', exists_eq_left, exists_and_left, true_and, and_true, Nat.reduceAdd, Nat.reduceSub, Nat.zero_add, if_true, if_false, Bool.false_eq_true, reduceCtorEq, decide_eq_true_eq, Nat.reduceEqDiff, v_ix_n0]
        simp only [Bool.not_true, Bool.false_eq_true, if_false]
        rw [v_range1 (by omega)]
        refine for_inv (J := fun a2 b2 en s => J4 a.length j many ps s0 en s) ⟨_, _, _, rfl, w11.trans w12⟩ (fun _ _ _ _ _ => stays_nil) (fun a2 d b2 en s e2 ⟨y4, y5, y6, ee, w13⟩ => ?_) (fun en s ⟨y4, y5, y6, ee, w13⟩ => ?_)
        · subst ee
          have e3 := rng_split e2
          have ed := e3.1
          clear e3
          subst ed
          have hl := hg.len
          simp only [m_fn, s_seq, s_if, s_ret, s_asg, s_expr, s_nx, s_bk, s_ct, s_par, s_raise, s_for, g_name, m_op, m_un, m_then, m_callb, m_var, m_c, m_call, m_callk, m_cons, m_nil, m_tup, m_lst, m_new, m_te, m_tand, m_tor, m_tnot, m_if, m_and, m_or, m_comp, v_add, v_sub, v_neg, v_lt, v_le, v_gt, v_ge, v_mod, v_fdiv, v_mul, v_int, v_abs, v_max, v_min, v_isN, v_notN, v_isB, v_not, v_len_t, v_eq_i, v_ne_i, v_eq_b, v_ix_t, wp_pure, wp_ite, List.map_cons, List.map_nil, List.length_cons, List.length_nil, List.replicate, List.append_nil, List.nil_append, List.cons_append, List.getElem?_cons_zero, List.getElem?_cons_succ, List.getElem?_nil, List.set_cons_zero, List.set_cons_succ, Option.some.injEq, D.bl.injEq, D.int.injEq, D.tup.injEq, exists_eq_left', exists_eq_left, exists_and_left, true_and, and_true, Nat.reduceAdd, Nat.reduceSub, Nat.zero_add, if_true, if_false, Bool.false_eq_true, reduceCtorEq, decide_eq_true_eq, Nat.reduceEqDiff]
          refine sp_ways_at (by omega) ?_
          refine sp_ways (by omega) ?_
          refine (v_tupV_l (xs := (waysAt ps a2.length).map D.int) (by simp)).mpr ?_
          refine sp_same 8 _ (clean_ints (n := 6) _) ?_
          simp only [m_fn, s_seq, s_if, s_ret, s_asg, s_expr, s_nx, s_bk, s_ct, s_par, s_raise, s_for, g_name, m_op, m_un, m_then, m_callb, m_var, m_c, m_call, m_callk, m_cons, m_nil, m_tup, m_lst, m_new, m_te, m_tand, m_tor, m_tnot, m_if, m_and, m_or, m_comp, v_add, v_sub, v_neg, v_lt, v_le, v_gt, v_ge, v_mod, v_fdiv, v_mul, v_int, v_abs, v_max, v_min, v_isN, v_notN, v_isB, v_not, v_len_t, v_eq_i, v_ne_i, v_eq_b, v_ix_t, wp_pure, wp_ite, List.map_cons, List.map_nil, List.length_cons, List.length_nil, List.replicate, List.append_nil, List.nil_append, List.cons_append, List.getElem?_cons_zero, List.getElem?_cons_succ, List.getElem?_nil, List.set_cons_zero, List.set_cons_succ, Option.some.injEq, D.bl.injEq, D.int.injEq, D.tup.injEq, exists_eq_left', exists_eq_left, exists_and_left, true_and, and_true, Nat.reduceAdd, Nat.reduceSub, Nat.zero_add, if_true, if_false, Bool.false_eq_true, reduceCtorEq, decide_eq_true_eq, Nat.reduceEqDiff]
          simp only [Bool.not_true, Bool.false_eq_true, if_false]
          exact ⟨_, _, _, rfl, w13.trans .app⟩
        · subst ee
          exact ⟨_, _, _, _, rfl, w13⟩
    · subst ee
      exact ⟨_, _, _, _, _, _, rfl, w.at hs0 (Ne.symm hj0)⟩
  · subst ee
    simp only [m_fn, s_seq, s_if, s_ret, s_asg, s_expr, s_nx, s_bk, s_ct, s_par, s_raise, s_for, g_name, m_op, m_un, m_then, m_callb, m_var, m_c, m_call, m_callk, m_cons, m_nil, m_tup, m_lst, m_new, m_te, m_tand, m_tor, m_tnot, m_if, m_and, m_or, m_comp, v_add, v_sub, v_neg, v_lt, v_le, v_gt, v_ge, v_mod, v_fdiv, v_mul, v_int, v_abs, v_max, v_min, v_isN, v_notN, v_isB, v_not, v_len_t, v_eq_i, v_ne_i, v_eq_b, v_ix_t, wp_pure, wp_ite, List.map_cons, List.map_nil, List.length_cons, List.length_nil, List.replicate, List.append_nil, List.nil_append, List.cons_append, List.getElem?_cons_zero, List.getElem?_cons_succ, List.getElem?_nil, List.set_cons_zero, List.set_cons_succ, Option.some.injEq, D.bl.injEq, D.int.injEq, D.tup.injEq, exists_eq_left', exists_eq_left, exists_and_left, true_and, and_true, Nat.reduceAdd, Nat.reduceSub, Nat.zero_add, if_true, if_false, Bool.false_eq_true, reduceCtorEq, decide_eq_true_eq, Nat.reduceEqDiff]
end
end K78
end part_P78o
theorem PySem.Challenge.cw_alikeatrest_k78_what_is_a_net_holds : PySem.Challenge.rw_alikeatrest_k78_what_is_a_net.Holds := by
  exact K78.law_all fun _ h => K78.law_ok h
