import PyProof.Rows.All
import Wide.All
import OpenK.AllK
import Wide.FinOn
import HandS.ForMost
import HandS.ForExc
import HandS.TupAny
import HandS.TupLe
import HandS.Style
import HandS.Codes
import KE.DataEq
import PyProof.StrOps2
import HandS.IsInst
import HandS.Conv
import HandS.TupLen
import HandS.RaiseMore
import HandS.StrMore
import HandS.WordsDict
import HandS.Walk
import HandS.Dict
import HandS.HeadHook3
import HandS.Strs
import KE.KExcIs
import HandS.ExcIs
import HandS.ExcField
import HandS.Defaults
import HandS.HeadHook2
import KE.KExcSuper
import HandS.ExcInit
import HandS.ExcValue
import HandS.Head0
import HandS.Head1
import HandS.Head2
import HandS.HeadEnd
import PySem.Challenge.RW_everyanswer_k07_whole_limits
set_option Elab.async false
set_option linter.all false
set_option maxRecDepth 100000
section
set_option maxHeartbeats 4000000
/-! MPBase: the values and the memory of a small interpreter of Python, and how they are told in the hand layer. -/
namespace MP
open PySem PySem.Spec PyProof.Rows L2

/-- a value: tuples and frozen lists by what they hold, things that change by their number -/
inductive W where
  | non | bl (b : Bool) | int (i : Int) | str (x : Str)
  | tup (xs : List W)
  | lst (xs : List W)
  | ref (i : Nat)
  | fn (k : Nat)
  | kt (xs : List W)
  | kl (xs : List W)
  | kd (k : Nat)
  deriving Inhabited

/-- a thing that changes -/
inductive O where
  | lst (xs : List W)
  | dK (kvs : List (Key × W))
  | dT (kvs : List (List Key × W))
  | ins (c : Nat) (fs : List (Nat × W))
  deriving Inhabited

/-- the memory; none: frozen for good -/
abbrev M := List (Option O)

inductive Res (α : Type) where
  | ok (a : α) (m : M)
  | exc (c : Nat) (fs : List (Nat × W)) (m : M)
  | stuck
  deriving Inhabited

def Res.bind {α β : Type} (r : Res α) (f : α → M → Res β) : Res β :=
  match r with
  | .ok a m => f a m
  | .exc c fs m => .exc c fs m
  | .stuck => .stuck

/-- where things of the text stand: the written part, classes, defs, the names of attributes -/
structure Tb where
  K : PySem.W.Frag
  ca : Nat → Addr
  fa : Nat → Addr
  da : Nat → Addr
  names : List Str
  nd : names.Nodup

/-- a memory laid into an abstract heap -/
structure Cf where
  ρ : List Addr
  m : M
  H : Hp
  /-- lists that are being made: nobody holds them yet -/
  res : List Addr

def Alive (c : Cf) (a : Addr) : Prop := ∃ (i : Nat) (o : O), c.ρ[i]? = some a ∧ c.m[i]? = some (some o)

/-- alive, or being made -/
def Own (c : Cf) (a : Addr) : Prop := Alive c a ∨ a ∈ c.res
mutual
def RelW (T : Tb) (c : Cf) : W → V → Prop
  | .non, v => v = .non
  | .bl b, v => v = .bl b
  | .int i, v => v = .int i
  | .str x, v => v = .str x
  | .tup xs, v => ∃ a vs, v = .ref a ∧ c.H a = some (.tup vs) ∧ RelWs T c xs vs
  | .lst xs, v => ∃ a vs, v = .ref a ∧ c.H a = some (.lst vs) ∧ ¬ Own c a ∧ RelWs T c xs vs
  | .kt xs, v => ∃ a vs, v = .ref a ∧ SqT T.K c.H a vs ∧ RelWs T c xs vs
  | .kl xs, v => ∃ a vs, v = .ref a ∧ (∃ o, c.H a = some (.frz o (.lst vs))) ∧ RelWs T c xs vs
  | .kd k, v => v = .ref (T.da k)
  | .ref i, v => ∃ a, c.ρ[i]? = some a ∧ v = .ref a
  | .fn k, v => v = .ref (T.fa k)
def RelWs (T : Tb) (c : Cf) : List W → List V → Prop
  | [], vs => vs = []
  | x :: xs, vs => ∃ v r, vs = v :: r ∧ RelW T c x v ∧ RelWs T c xs r
end

/-- what was there and is not alive stays as it was -/
structure Ext (c d : Cf) : Prop where
  dom : ∀ a o, c.H a = some o → ∃ u, d.H a = some u
  res : ∃ more, d.res = more ++ c.res ∧ ∀ a ∈ more, c.H a = none
  pre : ∃ more, d.ρ = c.ρ ++ more
  stay : ∀ a o, c.H a = some o → ¬ Alive c a → d.H a = some o ∧ ¬ Alive d a

theorem Ext.refl (c : Cf) : Ext c c := ⟨fun _ o h => ⟨o, h⟩, ⟨[], rfl, by simp⟩, ⟨[], by simp⟩, fun _ _ h n => ⟨h, n⟩⟩
theorem Ext.trans {a b c : Cf} (h : Ext a b) (k : Ext b c) : Ext a c := by
  obtain ⟨d1, ⟨u, hu, nu⟩, ⟨x, hx⟩, hs⟩ := h
  obtain ⟨d2, ⟨v, hv, nv⟩, ⟨y, hy⟩, ks⟩ := k
  refine ⟨fun p o e => let ⟨q, z⟩ := d1 p o e; d2 p q z, ⟨v ++ u, by rw [hv, hu, List.append_assoc], fun p hp => ?_⟩, ⟨x ++ y, by rw [hy, hx, List.append_assoc]⟩, fun p o e n => ?_⟩
  · rcases List.mem_append.mp hp with hp | hp
    · cases q : a.H p with
      | none => rfl
      | some o =>
        obtain ⟨o', z⟩ := d1 p o q
        rw [nv p hp] at z; cases z
    · exact nu p hp
  obtain ⟨e1, n1⟩ := hs p o e n
  exact ks p o e1 n1
theorem Ext.at {c d : Cf} (h : Ext c d) {i : Nat} {a : Addr} (e : c.ρ[i]? = some a) : d.ρ[i]? = some a := by
  obtain ⟨more, q⟩ := h.pre
  rw [q, List.getElem?_append_left (List.getElem?_eq_some_iff.mp e).1]
  exact e
theorem Ext.rd {c d : Cf} (h : Ext c d) {a : Addr} {u : HO} (r : Rd c.H a u) (n : ¬ Alive c a) : Rd d.H a u := by
  rcases r with r | ⟨o, r⟩
  · exact .inl (h.stay a _ r n).1
  · exact .inr ⟨o, (h.stay a _ r n).1⟩

theorem Ext.own {c d : Cf} (h : Ext c d) {a : Addr} {o : HO} (e : c.H a = some o) (n : ¬ Own c a) : d.H a = some o ∧ ¬ Own d a := by
  obtain ⟨e1, n1⟩ := h.stay a o e fun z => n (.inl z)
  refine ⟨e1, fun z => ?_⟩
  rcases z with z | z
  · exact n1 z
  · obtain ⟨more, hm, nm⟩ := h.res
    rw [hm] at z
    rcases List.mem_append.mp z with z | z
    · rw [nm a z] at e; cases e
    · exact n (.inr z)

/-- the same, but lists that are being made may have grown -/
structure ExtW (c d : Cf) : Prop where
  pre : ∃ more, d.ρ = c.ρ ++ more
  stay : ∀ a o, c.H a = some o → ¬ Own c a → d.H a = some o ∧ ¬ Own d a
theorem Ext.weak {c d : Cf} (h : Ext c d) : ExtW c d := ⟨h.pre, fun a o e n => h.own e n⟩
theorem ExtW.trans {a b c : Cf} (h : ExtW a b) (k : ExtW b c) : ExtW a c := by
  obtain ⟨⟨x, hx⟩, hs⟩ := h
  obtain ⟨⟨y, hy⟩, ks⟩ := k
  refine ⟨⟨x ++ y, by rw [hy, hx, List.append_assoc]⟩, fun p o e n => ?_⟩
  obtain ⟨e1, n1⟩ := hs p o e n
  exact ks p o e1 n1
theorem ExtW.own {c d : Cf} (h : ExtW c d) {a : Addr} {o : HO} (e : c.H a = some o) (n : ¬ Own c a) : d.H a = some o ∧ ¬ Own d a := h.stay a o e n
theorem ExtW.at {c d : Cf} (h : ExtW c d) {i : Nat} {a : Addr} (e : c.ρ[i]? = some a) : d.ρ[i]? = some a := by
  obtain ⟨more, q⟩ := h.pre
  rw [q, List.getElem?_append_left (List.getElem?_eq_some_iff.mp e).1]
  exact e

/-- what stands where a thing stands -/
def FsRel (T : Tb) (c : Cf) (fs : List (Nat × W)) (gs : List (Str × V)) : Prop :=
  Paired (fun p q => T.names[p.1]? = some q.1 ∧ RelW T c p.2 q.2) fs gs
def RelO (T : Tb) (c : Cf) (a : Addr) : O → Prop
  | .lst xs => ∃ vs, c.H a = some (.lst vs) ∧ RelWs T c xs vs
  | .dK kvs => ∃ us, c.H a = some (.dK us) ∧ Paired (fun p q => p.1 = q.1 ∧ RelW T c p.2 q.2) kvs us
  | .dT kvs => ∃ us, c.H a = some (.dT us) ∧ Paired (fun p q => p.1 = q.1 ∧ RelW T c p.2 q.2) kvs us
  | .ins k fs => ∃ dx gs, c.H a = some (.ins (T.ca k) dx gs) ∧ FsRel T c fs gs

structure RelM (T : Tb) (c : Cf) : Prop where
  len : c.ρ.length = c.m.length
  nd : c.ρ.Nodup
  has : ∀ a ∈ c.ρ, ∃ o, c.H a = some o
  resH : ∀ a ∈ c.res, ∃ vs, c.H a = some (.lst vs)
  resN : ∀ a ∈ c.res, a ∉ c.ρ
  obj : ∀ (i : Nat) (o : O) (a : Addr), c.m[i]? = some (some o) → c.ρ[i]? = some a → RelO T c a o

/-- a tuple's place is never alive -/
theorem RelM.noTup {T : Tb} {c : Cf} (R : MP.RelM T c) {a : Addr} {u : HO} (hu : ∀ xs, u ≠ .lst xs) (hk : ∀ xs, u ≠ .dK xs) (ht : ∀ xs, u ≠ .dT xs) (hi : ∀ C d fs, u ≠ .ins C d fs) (h : c.H a = some u) : ¬ Alive c a := by
  rintro ⟨i, o, e1, e2⟩
  have q := R.obj i o a e2 e1
  cases o with
  | lst xs => obtain ⟨vs, e, _⟩ := q; rw [e] at h; exact hu _ (Option.some.inj h).symm
  | dK xs => obtain ⟨vs, e, _⟩ := q; rw [e] at h; exact hk _ (Option.some.inj h).symm
  | dT xs => obtain ⟨vs, e, _⟩ := q; rw [e] at h; exact ht _ (Option.some.inj h).symm
  | ins k fs => obtain ⟨dx, gs, e, _⟩ := q; rw [e] at h; exact hi _ _ _ (Option.some.inj h).symm

theorem RelM.sqT {T : Tb} {c d : Cf} (R : MP.RelM T c) (h : Ext c d) {a : Addr} {vs : List V} (s : SqT T.K c.H a vs) : SqT T.K d.H a vs := by
  rcases s with (r | ⟨o, r⟩) | s
  · exact .inl (.inl (h.stay a _ r (R.noTup (u := .tup vs) (fun _ z => nomatch z) (fun _ z => nomatch z) (fun _ z => nomatch z) (fun _ _ _ z => nomatch z) r)).1)
  · exact .inl (.inr ⟨o, (h.stay a _ r (R.noTup (u := .frz o (.tup vs)) (fun _ z => nomatch z) (fun _ z => nomatch z) (fun _ z => nomatch z) (fun _ _ _ z => nomatch z) r)).1⟩)
  · exact .inr s

theorem RelM.noOwn {T : Tb} {c : Cf} (R : MP.RelM T c) {a : Addr} {u : HO} (hu : ∀ xs, u ≠ .lst xs) (hk : ∀ xs, u ≠ .dK xs) (ht : ∀ xs, u ≠ .dT xs) (hi : ∀ C d fs, u ≠ .ins C d fs) (h : c.H a = some u) : ¬ Own c a := by
  rintro (z | z)
  · exact R.noTup hu hk ht hi h z
  · obtain ⟨vs, e⟩ := R.resH a z
    rw [h] at e
    exact hu vs (Option.some.inj e)
theorem RelM.tupOwn {T : Tb} {c : Cf} (R : MP.RelM T c) {a : Addr} {vs : List V} (h : c.H a = some (.tup vs)) : ¬ Own c a := R.noOwn (u := .tup vs) (fun _ z => nomatch z) (fun _ z => nomatch z) (fun _ z => nomatch z) (fun _ _ _ z => nomatch z) h
theorem RelM.frzOwn {T : Tb} {c : Cf} (R : MP.RelM T c) {a : Addr} {o : Obj} {u : HO} (h : c.H a = some (.frz o u)) : ¬ Own c a := R.noOwn (u := .frz o u) (fun _ z => nomatch z) (fun _ z => nomatch z) (fun _ z => nomatch z) (fun _ _ _ z => nomatch z) h
theorem RelM.sqTW {T : Tb} {c d : Cf} (R : MP.RelM T c) (h : ExtW c d) {a : Addr} {vs : List V} (s : SqT T.K c.H a vs) : SqT T.K d.H a vs := by
  rcases s with (r | ⟨o, r⟩) | s
  · exact .inl (.inl (h.stay a _ r (R.tupOwn r)).1)
  · exact .inl (.inr ⟨o, (h.stay a _ r (R.frzOwn r)).1⟩)
  · exact .inr s
mutual
theorem RelW.extW {T : Tb} {c d : Cf} (R : MP.RelM T c) (h : ExtW c d) : ∀ {w : W} {v : V}, RelW T c w v → RelW T d w v
  | .non, _, e => e
  | .bl _, _, e => e
  | .int _, _, e => e
  | .str _, _, e => e
  | .tup xs, _, e => by
    obtain ⟨a, vs, e1, e2, e3⟩ := (show ∃ a vs, _ from e)
    exact ⟨a, vs, e1, (h.stay a _ e2 (R.tupOwn e2)).1, RelWs.extW R h e3⟩
  | .lst xs, _, e => by
    obtain ⟨a, vs, e1, e2, n, e3⟩ := (show ∃ a vs, _ from e)
    have q := h.stay a _ e2 n
    exact ⟨a, vs, e1, q.1, q.2, RelWs.extW R h e3⟩
  | .kt xs, _, e => by
    obtain ⟨a, vs, e1, e2, e3⟩ := (show ∃ a vs, _ from e)
    exact ⟨a, vs, e1, R.sqTW h e2, RelWs.extW R h e3⟩
  | .kl xs, _, e => by
    obtain ⟨a, vs, e1, ⟨o, e2⟩, e3⟩ := (show ∃ a vs, _ from e)
    exact ⟨a, vs, e1, ⟨o, (h.stay a _ e2 (R.frzOwn e2)).1⟩, RelWs.extW R h e3⟩
  | .kd _, _, e => e
  | .ref i, _, e => by
    obtain ⟨a, e1, e2⟩ := (show ∃ a, _ from e)
    exact ⟨a, h.at e1, e2⟩
  | .fn _, _, e => e
theorem RelWs.extW {T : Tb} {c d : Cf} (R : MP.RelM T c) (h : ExtW c d) : ∀ {xs : List W} {vs : List V}, RelWs T c xs vs → RelWs T d xs vs
  | [], _, e => e
  | x :: xs, _, e => by
    obtain ⟨v, r, e1, e2, e3⟩ := (show ∃ v r, _ from e)
    exact ⟨v, r, e1, RelW.extW R h e2, RelWs.extW R h e3⟩
end
mutual
theorem RelW.ext {T : Tb} {c d : Cf} (R : MP.RelM T c) (h : Ext c d) : ∀ {w : W} {v : V}, RelW T c w v → RelW T d w v
  | .non, _, e => e
  | .bl _, _, e => e
  | .int _, _, e => e
  | .str _, _, e => e
  | .tup xs, _, e => by
    obtain ⟨a, vs, e1, e2, e3⟩ := (show ∃ a vs, _ from e)
    exact ⟨a, vs, e1, (h.stay a _ e2 (R.noTup (u := .tup vs) (fun _ z => nomatch z) (fun _ z => nomatch z) (fun _ z => nomatch z) (fun _ _ _ z => nomatch z) e2)).1, RelWs.ext R h e3⟩
  | .lst xs, _, e => by
    obtain ⟨a, vs, e1, e2, n, e3⟩ := (show ∃ a vs, _ from e)
    have q := h.own e2 n
    exact ⟨a, vs, e1, q.1, q.2, RelWs.ext R h e3⟩
  | .kt xs, _, e => by
    obtain ⟨a, vs, e1, e2, e3⟩ := (show ∃ a vs, _ from e)
    exact ⟨a, vs, e1, R.sqT h e2, RelWs.ext R h e3⟩
  | .kl xs, _, e => by
    obtain ⟨a, vs, e1, ⟨o, e2⟩, e3⟩ := (show ∃ a vs, _ from e)
    exact ⟨a, vs, e1, ⟨o, (h.stay a _ e2 (R.noTup (u := .frz o (.lst vs)) (fun _ z => nomatch z) (fun _ z => nomatch z) (fun _ z => nomatch z) (fun _ _ _ z => nomatch z) e2)).1⟩, RelWs.ext R h e3⟩
  | .kd _, _, e => e
  | .ref i, _, e => by
    obtain ⟨a, e1, e2⟩ := (show ∃ a, _ from e)
    exact ⟨a, h.at e1, e2⟩
  | .fn _, _, e => e
theorem RelWs.ext {T : Tb} {c d : Cf} (R : MP.RelM T c) (h : Ext c d) : ∀ {xs : List W} {vs : List V}, RelWs T c xs vs → RelWs T d xs vs
  | [], _, e => e
  | x :: xs, _, e => by
    obtain ⟨v, r, e1, e2, e3⟩ := (show ∃ v r, _ from e)
    exact ⟨v, r, e1, RelW.ext R h e2, RelWs.ext R h e3⟩
end

theorem RelWs.length {T : Tb} {c : Cf} : ∀ {xs : List W} {vs : List V}, RelWs T c xs vs → xs.length = vs.length
  | [], _, e => by cases (show _ = [] from e); rfl
  | x :: xs, _, e => by
    obtain ⟨v, r, e1, _, e3⟩ := (show ∃ v r, _ from e)
    subst e1
    exact congrArg (· + 1) e3.length
theorem RelWs.get {T : Tb} {c : Cf} : ∀ {xs : List W} {vs : List V} {i : Nat} {x : W}, RelWs T c xs vs → xs[i]? = some x → ∃ v, vs[i]? = some v ∧ RelW T c x v
  | [], _, _, _, _, h => by simp at h
  | y :: xs, _, 0, x, e, h => by
    obtain ⟨v, r, e1, e2, _⟩ := (show ∃ v r, _ from e)
    subst e1
    have z : y = x := Option.some.inj h
    exact ⟨v, rfl, z ▸ e2⟩
  | y :: xs, _, i + 1, x, e, h => by
    obtain ⟨v, r, e1, _, e3⟩ := (show ∃ v r, _ from e)
    subst e1
    exact RelWs.get (i := i) e3 h
theorem RelWs.cons {T : Tb} {c : Cf} {x : W} {xs : List W} {v : V} {vs : List V} (a : RelW T c x v) (b : RelWs T c xs vs) : RelWs T c (x :: xs) (v :: vs) := ⟨v, vs, rfl, a, b⟩
theorem RelWs.nil {T : Tb} {c : Cf} : RelWs T c [] [] := rfl
theorem RelWs.append {T : Tb} {c : Cf} : ∀ {xs ys : List W} {vs us : List V}, RelWs T c xs vs → RelWs T c ys us → RelWs T c (xs ++ ys) (vs ++ us)
  | [], _, _, _, a, b => by cases (show _ = [] from a); exact b
  | x :: xs, _, _, _, a, b => by
    obtain ⟨v, r, e1, e2, e3⟩ := (show ∃ v r, _ from a)
    subst e1
    exact ⟨v, _, rfl, e2, RelWs.append e3 b⟩
theorem RelWs.take {T : Tb} {c : Cf} : ∀ (n : Nat) {xs : List W} {vs : List V}, RelWs T c xs vs → RelWs T c (xs.take n) (vs.take n)
  | 0, _, _, _ => by simp; rfl
  | n + 1, [], _, a => by cases (show _ = [] from a); rfl
  | n + 1, x :: xs, _, a => by
    obtain ⟨v, r, e1, e2, e3⟩ := (show ∃ v r, _ from a)
    subst e1
    exact ⟨v, _, rfl, e2, RelWs.take n e3⟩
theorem RelWs.drop {T : Tb} {c : Cf} : ∀ (n : Nat) {xs : List W} {vs : List V}, RelWs T c xs vs → RelWs T c (xs.drop n) (vs.drop n)
  | 0, _, _, h => h
  | n + 1, [], _, a => by cases (show _ = [] from a); rfl
  | n + 1, x :: xs, _, a => by
    obtain ⟨v, r, e1, e2, e3⟩ := (show ∃ v r, _ from a)
    subst e1
    exact RelWs.drop n e3
theorem RelWs.set {T : Tb} {c : Cf} {x : W} {v : V} (r : RelW T c x v) : ∀ (n : Nat) {xs : List W} {vs : List V}, RelWs T c xs vs → RelWs T c (xs.set n x) (vs.set n v)
  | _, [], _, a => by cases (show _ = [] from a); rfl
  | 0, y :: xs, _, a => by
    obtain ⟨u, q, e1, e2, e3⟩ := (show ∃ v r, _ from a)
    subst e1
    exact ⟨v, q, rfl, r, e3⟩
  | n + 1, y :: xs, _, a => by
    obtain ⟨u, q, e1, e2, e3⟩ := (show ∃ v r, _ from a)
    subst e1
    exact ⟨u, _, rfl, e2, RelWs.set r n e3⟩

/-! ### new things, changed things -/
section
variable {T : Tb} {c : Cf} {a p : Addr} {o : O} {u : HO}
theorem Paired.mp {α β : Type} {F G : α → β → Prop} : ∀ {l : List α} {r : List β}, Paired F l r → (∀ a b, F a b → G a b) → Paired G l r
  | _, _, .nil, _ => .nil
  | _, _, .cons h t, f => .cons (f _ _ h) (Paired.mp t f)

theorem RelO.of {d : Cf} (R : MP.RelM T c) (h : Ext c d) (eH : d.H a = c.H a) (r : RelO T c a o) : RelO T d a o := by
  cases o with
  | lst xs => obtain ⟨vs, e, q⟩ := r; exact ⟨vs, eH.trans e, q.ext R h⟩
  | dK xs => obtain ⟨vs, e, q⟩ := r; exact ⟨vs, eH.trans e, Paired.mp q fun _ _ z => ⟨z.1, z.2.ext R h⟩⟩
  | dT xs => obtain ⟨vs, e, q⟩ := r; exact ⟨vs, eH.trans e, Paired.mp q fun _ _ z => ⟨z.1, z.2.ext R h⟩⟩
  | ins k fs => obtain ⟨dx, gs, e, q⟩ := r; exact ⟨dx, gs, eH.trans e, Paired.mp q fun _ _ z => ⟨z.1, z.2.ext R h⟩⟩

/-- a new place that is no thing (a tuple, a frozen list, an instance's dict) -/
def Cf.put (c : Cf) (p : Addr) (u : HO) : Cf := ⟨c.ρ, c.m, upd c.H p u, c.res⟩
theorem Cf.put_alive : Alive (c.put p u) a ↔ Alive c a := Iff.rfl
theorem RelM.fresh (R : MP.RelM T c) (hp : c.H p = none) : p ∉ c.ρ := fun z => by
  obtain ⟨o, e⟩ := R.has p z
  rw [hp] at e; cases e
theorem Alive.mem (h : Alive c a) : a ∈ c.ρ := by
  obtain ⟨i, o, e, _⟩ := h
  exact List.mem_of_getElem? e
theorem RelM.extPut (R : MP.RelM T c) (hp : c.H p = none) : Ext c (c.put p u) := by
  have at_ : ∀ b o, c.H b = some o → upd c.H p u b = some o := fun b o e => by rw [upd_ne (ne_of_none e hp)]; exact e
  exact ⟨fun b o e => ⟨o, at_ b o e⟩, ⟨[], rfl, by simp⟩, ⟨[], by simp [Cf.put]⟩, fun b o e n => ⟨at_ b o e, n⟩⟩
theorem RelM.put (R : MP.RelM T c) (hp : c.H p = none) : MP.RelM T (c.put p u) := by
  have x := R.extPut (u := u) hp
  refine ⟨R.len, R.nd, fun b hb => ?_, fun b hb => ?_, R.resN, fun i o b e1 e2 => ?_⟩
  · obtain ⟨o, e⟩ := R.has b hb
    exact ⟨o, by show upd c.H p u b = _; rw [upd_ne (ne_of_none e hp)]; exact e⟩
  · obtain ⟨o, e⟩ := R.resH b hb
    exact ⟨o, by show upd c.H p u b = _; rw [upd_ne (ne_of_none e hp)]; exact e⟩
  · refine (R.obj i o b e1 e2).of R x ?_
    obtain ⟨o', e'⟩ := R.has b (List.mem_of_getElem? e2)
    show upd c.H p u b = _
    rw [upd_ne (ne_of_none e' hp)]
/-- a new thing -/
def Cf.add (c : Cf) (p : Addr) (u : HO) (o : O) : Cf := ⟨c.ρ ++ [p], c.m ++ [some o], upd c.H p u, c.res⟩
theorem RelM.aliveAdd (R : MP.RelM T c) (hp : c.H p = none) (h : Alive (c.add p u o) a) : a = p ∨ Alive c a := by
  obtain ⟨i, o', e1, e2⟩ := h
  have e1 : (c.ρ ++ [p])[i]? = some a := e1
  have e2 : (c.m ++ [some o])[i]? = some (some o') := e2
  by_cases hi : i < c.ρ.length
  · rw [List.getElem?_append_left hi] at e1
    rw [List.getElem?_append_left (by rw [← R.len]; exact hi)] at e2
    exact .inr ⟨i, o', e1, e2⟩
  · rw [List.getElem?_append_right (by omega)] at e1
    have : a ∈ [p] := List.mem_of_getElem? e1
    exact .inl (by simpa using this)
theorem RelM.extAdd (R : MP.RelM T c) (hp : c.H p = none) : Ext c (c.add p u o) := by
  refine ⟨fun b o e => ⟨o, by show upd c.H p u b = some o; rw [upd_ne (ne_of_none e hp)]; exact e⟩, ⟨[], rfl, by simp⟩, ⟨[p], rfl⟩, fun b q e n => ⟨?_, fun z => ?_⟩⟩
  · show upd c.H p u b = some q
    rw [upd_ne (ne_of_none e hp)]; exact e
  · rcases R.aliveAdd hp z with z | z
    · subst z; rw [hp] at e; cases e
    · exact n z
theorem RelM.add (R : MP.RelM T c) (hp : c.H p = none) (ho : RelO T (c.add p u o) p o) : MP.RelM T (c.add p u o) := by
  have x := R.extAdd (u := u) (o := o) hp
  have nres : ∀ b ∈ c.res, b ≠ p := fun b hb z => by
    obtain ⟨q, e⟩ := R.resH b hb
    rw [z, hp] at e; cases e
  refine ⟨by show (c.ρ ++ [p]).length = (c.m ++ [some o]).length; simp [R.len], ?_, fun b hb => ?_, fun b hb => ?_, fun b hb hm => ?_, fun i o' b e1 e2 => ?_⟩
  · show (c.ρ ++ [p]).Nodup
    rw [List.nodup_append]
    refine ⟨R.nd, by simp, fun x hx y hy => ?_⟩
    have : y = p := by simpa using hy
    subst this
    exact fun z => R.fresh hp (z ▸ hx)
  · have hb : b ∈ c.ρ ++ [p] := hb
    rcases List.mem_append.mp hb with hb | hb
    · obtain ⟨q, e⟩ := R.has b hb
      exact ⟨q, by show upd c.H p u b = _; rw [upd_ne (ne_of_none e hp)]; exact e⟩
    · have : b = p := by simpa using hb
      subst this
      exact ⟨u, upd_same⟩
  · obtain ⟨q, e⟩ := R.resH b hb
    exact ⟨q, by show upd c.H p u b = _; rw [upd_ne (nres b hb)]; exact e⟩
  · have hm : b ∈ c.ρ ++ [p] := hm
    rcases List.mem_append.mp hm with hm | hm
    · exact R.resN b hb hm
    · exact nres b hb (by simpa using hm)
  · have e1 : (c.m ++ [some o])[i]? = some (some o') := e1
    have e2 : (c.ρ ++ [p])[i]? = some b := e2
    by_cases hi : i < c.ρ.length
    · rw [List.getElem?_append_left hi] at e2
      rw [List.getElem?_append_left (by rw [← R.len]; exact hi)] at e1
      refine (R.obj i o' b e1 e2).of R x ?_
      obtain ⟨q, e⟩ := R.has b (List.mem_of_getElem? e2)
      show upd c.H p u b = _
      rw [upd_ne (ne_of_none e hp)]
    · rw [List.getElem?_append_right (by omega)] at e2
      rw [List.getElem?_append_right (by rw [← R.len]; omega)] at e1
      have h1 : b ∈ [p] := List.mem_of_getElem? e2
      have h2 : some o' ∈ [some o] := List.mem_of_getElem? e1
      have h1 : b = p := by simpa using h1
      have h2 : o' = o := by simpa using h2
      subst h1 h2
      exact ho
theorem Cf.add_ref (R : MP.RelM T c) : (c.add p u o).ρ[c.m.length]? = some p := by
  show (c.ρ ++ [p])[c.m.length]? = some p
  rw [← R.len]; simp
/-- a thing is changed -/
def Cf.chg (c : Cf) (i : Nat) (a : Addr) (u : HO) (o : O) : Cf := ⟨c.ρ, c.m.set i (some o), upd c.H a u, c.res⟩
theorem RelM.aliveChg {i : Nat} {o0 : O} (e0 : c.m[i]? = some (some o0)) (ea : c.ρ[i]? = some a) {b : Addr} : Alive (c.chg i a u o) b ↔ Alive c b := by
  have hi : i < c.m.length := (List.getElem?_eq_some_iff.mp e0).1
  constructor
  · rintro ⟨j, o', e1, e2⟩
    have e2 : (c.m.set i (some o))[j]? = some (some o') := e2
    by_cases hj : i = j
    · subst hj; exact ⟨i, o0, e1, e0⟩
    · rw [List.getElem?_set_ne hj] at e2; exact ⟨j, o', e1, e2⟩
  · rintro ⟨j, o', e1, e2⟩
    by_cases hj : i = j
    · subst hj; exact ⟨i, o, e1, by show (c.m.set i (some o))[i]? = _; rw [List.getElem?_set_self hi]⟩
    · exact ⟨j, o', e1, by show (c.m.set i (some o))[j]? = _; rw [List.getElem?_set_ne hj]; exact e2⟩
theorem RelM.extChg {i : Nat} {o0 : O} (e0 : c.m[i]? = some (some o0)) (ea : c.ρ[i]? = some a) : Ext c (c.chg i a u o) := by
  have dm : ∀ b q, c.H b = some q → ∃ y, upd c.H a u b = some y := fun b q e => by
    by_cases hb : b = a
    · subst hb; exact ⟨u, upd_same⟩
    · exact ⟨q, by rw [upd_ne hb]; exact e⟩
  refine ⟨dm, ⟨[], rfl, by simp⟩, ⟨[], by simp [Cf.chg]⟩, fun b q e n => ⟨?_, fun z => n ((RelM.aliveChg e0 ea).mp z)⟩⟩
  show upd c.H a u b = some q
  have ne : b ≠ a := fun z => n ⟨i, o0, by rw [z]; exact ea, e0⟩
  rw [upd_ne ne]; exact e
theorem RelM.chg (R : MP.RelM T c) {i : Nat} {o0 : O} (e0 : c.m[i]? = some (some o0)) (ea : c.ρ[i]? = some a) (ho : RelO T (c.chg i a u o) a o) : MP.RelM T (c.chg i a u o) := by
  have x := RelM.extChg (u := u) (o := o) e0 ea
  have hi : i < c.m.length := (List.getElem?_eq_some_iff.mp e0).1
  refine ⟨by show c.ρ.length = (c.m.set i (some o)).length; rw [List.length_set]; exact R.len, R.nd, fun b hb => ?_, fun b hb => ?_, R.resN, fun j o' b e1 e2 => ?_⟩
  · by_cases hb2 : b = a
    · subst hb2; exact ⟨u, upd_same⟩
    · obtain ⟨q, e⟩ := R.has b hb
      exact ⟨q, by show upd c.H a u b = _; rw [upd_ne hb2]; exact e⟩
  · have hb2 : b ≠ a := fun z => R.resN b hb (z ▸ List.mem_of_getElem? ea)
    obtain ⟨q, e⟩ := R.resH b hb
    exact ⟨q, by show upd c.H a u b = _; rw [upd_ne hb2]; exact e⟩
  · have e1 : (c.m.set i (some o))[j]? = some (some o') := e1
    by_cases hj : i = j
    · subst hj
      rw [List.getElem?_set_self hi] at e1
      have z : o = o' := Option.some.inj (Option.some.inj e1)
      have y : a = b := Option.some.inj (ea.symm.trans e2)
      subst z y
      exact ho
    · rw [List.getElem?_set_ne hj] at e1
      refine (R.obj j o' b e1 e2).of R x ?_
      have ne : b ≠ a := fun z => by
        subst z
        exact hj (nodup_at R.nd ea e2)
      show upd c.H a u b = _
      rw [upd_ne ne]
where
  nodup_at {l : List Addr} (h : l.Nodup) {i j : Nat} {x : Addr} (a : l[i]? = some x) (b : l[j]? = some x) : i = j := by
    obtain ⟨h1, e1⟩ := List.getElem?_eq_some_iff.mp a
    obtain ⟨h2, e2⟩ := List.getElem?_eq_some_iff.mp b
    exact (List.getElem_inj h).mp (e1.trans e2.symm)
/-- a thing is frozen -/
def Cf.frz (c : Cf) (i : Nat) : Cf := ⟨c.ρ, c.m.set i none, c.H, c.res⟩
theorem RelM.aliveFrz {i : Nat} {b : Addr} (z : Alive (c.frz i) b) : Alive c b := by
  obtain ⟨j, o', e1, e2⟩ := z
  have e2 : (c.m.set i none)[j]? = some (some o') := e2
  by_cases hj : i = j
  · subst hj
    by_cases hi : i < c.m.length
    · rw [List.getElem?_set_self hi] at e2; cases e2
    · rw [List.getElem?_eq_none (by rw [List.length_set]; omega)] at e2; cases e2
  · rw [List.getElem?_set_ne hj] at e2; exact ⟨j, o', e1, e2⟩
theorem RelM.extFrz (i : Nat) : Ext c (c.frz i) := ⟨fun b o e => ⟨o, e⟩, ⟨[], rfl, by simp⟩, ⟨[], by simp [Cf.frz]⟩, fun b q e n => ⟨e, fun z => n (RelM.aliveFrz z)⟩⟩
theorem RelM.frz (R : MP.RelM T c) (i : Nat) : MP.RelM T (c.frz i) := by
  refine ⟨by show c.ρ.length = (c.m.set i none).length; rw [List.length_set]; exact R.len, R.nd, R.has, R.resH, R.resN, fun j o' b e1 e2 => ?_⟩
  have e1 : (c.m.set i none)[j]? = some (some o') := e1
  by_cases hj : i = j
  · subst hj
    by_cases hi : i < c.m.length
    · rw [List.getElem?_set_self hi] at e1; cases e1
    · rw [List.getElem?_eq_none (by rw [List.length_set]; omega)] at e1; cases e1
  · rw [List.getElem?_set_ne hj] at e1
    exact (R.obj j o' b e1 e2).of R (RelM.extFrz i) rfl
theorem RelM.deadFrz (R : MP.RelM T c) {i : Nat} (ea : c.ρ[i]? = some a) : ¬ Alive (c.frz i) a := by
  rintro ⟨j, o', e1, e2⟩
  have e2 : (c.m.set i none)[j]? = some (some o') := e2
  have e : i = j := RelM.chg.nodup_at R.nd ea e1
  subst e
  by_cases hi : i < c.m.length
  · rw [List.getElem?_set_self hi] at e2; cases e2
  · rw [List.getElem?_eq_none (by rw [List.length_set]; omega)] at e2; cases e2
end

end MP
end

section
set_option maxHeartbeats 4000000
/-! MPDeq: a dict is no text. -/
namespace MP
open PySem PySem.Spec PyProof.Rows L2
theorem sub_str_dict : isSubtype (.type "str") (.type "dict") = pure false := by rw [isSubtype_type]; kernel_rfl
theorem dict_declines_str (l : Addr) (es : Array DictEntry) (n : Nat) (dd : Option Addr) (sl : Array (Option Value)) (b : Str) (u : Tok) :
    Meets (Builtin.«dict.__eq__» ⟨[.ref l, .str b u], []⟩) (fun _ R s => s.heap.get? l = some { cls := .type "dict", dict := dd, data := .dict es n, slots := sl } ∧ R (.ok (.ret .notImplemented)) s) :=
  .of_wp fun prog w A R s h => by
    obtain ⟨hp, g, d, tk, os⟩ := s
    obtain ⟨hl, h⟩ := h
    have z := sub_str_dict
    wp_walk using wpAny_loadPart' hl, wpAny_load hl
    exact ⟨_, rfl, h⟩
theorem str_declines_dict (b : Str) (u : Tok) (l : Addr) (c : Value) (es : Array DictEntry) (n : Nat) (dd : Option Addr) (sl : Array (Option Value)) :
    Meets (Builtin.«str.__eq__» ⟨[.str b u, .ref l], []⟩) (fun _ R s => s.heap.get? l = some { cls := c, dict := dd, data := .dict es n, slots := sl } ∧ R (.ok (.ret .notImplemented)) s) :=
  .of_wp fun prog w A R s h => by
    obtain ⟨hp, g, d, tk, os⟩ := s
    obtain ⟨hl, h⟩ := h
    wp_walk using wpAny_loadPart' hl, wpAny_load hl
    exact ⟨_, rfl, h⟩
section
variable {A : Around} {s : Shared}
theorem rc_dict_str {l : Addr} {o : Obj} {es : Array DictEntry} {n : Nat} (b : Str) (u : Tok) (ho : s.heap.get? l = some o) (hc : o.cls = .type "dict") (hd : o.data = .dict es n) (hu : A.units < cLine) : SeqAt.RcAt A s (.ref l) (.str b u) false := fun prog w E Q h => by
  obtain ⟨c, dd, dt, sl⟩ := o
  simp only at hc hd
  subst hc hd
  exact SeqAt.rc_eq_decline_or (k := false) ⟨_, ho, rfl⟩ (typeIs_str s b u) (by decide) sub_str_dict PySem.F.slot_dict_eq PySem.F.slot_str_eq_refl
    (fun _ q => call_meets PySem.F.slot_dict_eq ⟨_, ho, rfl⟩ PySem.F.entry_dict_eq (PySem.F.args_dict_eq_2 _ _) (dict_declines_str l es n dd sl b u) ⟨ho, q⟩)
    (fun _ q => call_meets PySem.F.slot_str_eq_refl (typeIs_str s b u) PySem.F.entry_str_eq (PySem.F.args_str_eq_2 _ _) (str_declines_dict b u l (.type "dict") es n dd sl) ⟨ho, q⟩)
    (fun _ q => wpAny_of_eq (rfl : isSame (.ref l) (.str b u) = pure false) q) (.inr hu) h
end
section
variable {X : Cx}
theorem op_eq_dict (hu : X.A.units + 64 < cLine) : OpR X (compareOp .Eq) (fun x y H Q => ∃ p z, x = .ref p ∧ y = .str z ∧ ((∃ kvs, H p = some (.dK kvs)) ∨ ∃ kvs, H p = some (.dT kvs)) ∧ Q (.bl false) H) := by
  intro pins s σ H x y v u Q I rx ry h
  obtain ⟨p, z, rfl, rfl, hd, q⟩ := h
  obtain rfl : v = Value.ref p := rx
  obtain ⟨t, rfl⟩ := ry
  rcases hd with ⟨kvs, e⟩ | ⟨kvs, e⟩
  · obtain ⟨_, _, vs, _, ob, es, ep, h1, h2, h3, _⟩ := (show ObjOk X.prog X.w H s.heap p (.dK kvs) from I.hok p _ e)
    exact EqBoolInt.of_rc (rc_dict_str z t h1 h2.1 h3 (by omega)) ⟨.bl false, H, I, rfl, q⟩
  · obtain ⟨_, _, xs, _, ob, es, ep, h1, h2, h3, _⟩ := (show ObjOk X.prog X.w H s.heap p (.dT kvs) from I.hok p _ e)
    exact EqBoolInt.of_rc (rc_dict_str z t h1 h2.1 h3 (by omega)) ⟨.bl false, H, I, rfl, q⟩
end
end MP
end

section
set_option maxHeartbeats 4000000
/-! MPWp: what a result of the small interpreter says of the hand layer's readings. -/
namespace MP
open PySem PySem.Spec PyProof.Rows L2

abbrev Sl := List (Option W)
abbrev St := L2.St
/-- the slots -/
structure RelS (T : Tb) (c : Cf) (σw : Sl) (σ : St) : Prop where
  len : σw.length = σ.length
  at_ : ∀ (i : Nat) (w : W), σw[i]? = some (some w) → ∃ v, σ[i]? = some (some v) ∧ RelW T c w v
theorem RelS.ext {T : Tb} {c d : Cf} {σw : Sl} {σ : St} (R : MP.RelM T c) (h : Ext c d) (r : RelS T c σw σ) : RelS T d σw σ :=
  ⟨r.len, fun i w e => let ⟨v, e1, e2⟩ := r.at_ i w e; ⟨v, e1, e2.ext R h⟩⟩
theorem RelS.set {T : Tb} {c : Cf} {σw : Sl} {σ : St} {w : W} {v : V} (r : RelS T c σw σ) (i : Nat) (h : RelW T c w v) : RelS T c (σw.set i (some w)) (σ.set i (some v)) := by
  refine ⟨by rw [List.length_set, List.length_set]; exact r.len, fun j u e => ?_⟩
  by_cases hj : i = j
  · subst hj
    have hl : i < σw.length := by
      have := (List.getElem?_eq_some_iff.mp e).1
      rwa [List.length_set] at this
    rw [List.getElem?_set_self hl] at e
    have : w = u := Option.some.inj (Option.some.inj e)
    subst this
    exact ⟨v, by rw [List.getElem?_set_self (by rw [← r.len]; exact hl)], h⟩
  · rw [List.getElem?_set_ne hj] at e
    obtain ⟨x, e1, e2⟩ := r.at_ j u e
    exact ⟨x, by rw [List.getElem?_set_ne hj]; exact e1, e2⟩
theorem RelS.wipe {T : Tb} {c : Cf} {σw : Sl} {σ : St} (r : RelS T c σw σ) (i : Nat) (x : Option V) : RelS T c (σw.set i none) (σ.set i x) := by
  refine ⟨by rw [List.length_set, List.length_set]; exact r.len, fun j u e => ?_⟩
  by_cases hj : i = j
  · subst hj
    have hl : i < σw.length := by
      have := (List.getElem?_eq_some_iff.mp e).1
      rwa [List.length_set] at this
    rw [List.getElem?_set_self hl] at e
    cases e
  · rw [List.getElem?_set_ne hj] at e
    obtain ⟨y, e1, e2⟩ := r.at_ j u e
    exact ⟨y, by rw [List.getElem?_set_ne hj]; exact e1, e2⟩

/-- an exception of the class k with the fields fs -/
def ExcIs (T : Tb) (c : Cf) (k : Nat) (fs : List (Nat × W)) (cls : Value) (d : Option Addr) : Prop :=
  cls = .ref (T.ca k) ∧ ((fs = [] ∧ d = none) ∨ ∃ dd gs, d = some dd ∧ c.H dd = some (.xd gs) ∧ FsRel T c fs gs)

/-- what a result promises -/
def Wp {α β : Type} (T : Tb) (Wx : WX) (σ : St) (R : Cf → α → β → Prop) (c : Cf) (r : Res α) (Q : β → Hp → Prop) : Prop :=
  match r with
  | .ok a m => ∀ ρ H b, Ext c ⟨ρ, m, H, c.res⟩ → MP.RelM T ⟨ρ, m, H, c.res⟩ → R ⟨ρ, m, H, c.res⟩ a b → Q b H
  | .exc k fs m => ∀ ρ H cls d, Ext c ⟨ρ, m, H, c.res⟩ → MP.RelM T ⟨ρ, m, H, c.res⟩ → ExcIs T ⟨ρ, m, H, c.res⟩ k fs cls d → Wx cls d σ H
  | .stuck => False

section
variable {α β γ δ : Type} {T : Tb} {Wx : WX} {σ : St} {R : Cf → α → β → Prop} {c d : Cf} {r : Res α} {Q Q' : β → Hp → Prop}
theorem Wp.ext (h : Wp T Wx σ R c r Q) (e : Ext c d) (er : d.res = c.res := by rfl) : Wp T Wx σ R d r Q := by
  cases r with
  | ok a m => intro ρ H b; rw [er]; exact fun x y z => h ρ H b (e.trans x) y z
  | exc k fs m => intro ρ H cls dd; rw [er]; exact fun x y z => h ρ H cls dd (e.trans x) y z
  | stuck => exact h
theorem Wp.mono (h : Wp T Wx σ R c r Q) (k : ∀ b H, Q b H → Q' b H) : Wp T Wx σ R c r Q' := by
  cases r with
  | ok a m => exact fun ρ H b x y z => k b H (h ρ H b x y z)
  | exc k fs m => exact h
  | stuck => exact h
theorem Wp.bind {R' : Cf → γ → δ → Prop} {f : α → M → Res γ} {P : δ → Hp → Prop} (h : Wp T Wx σ R' c (r.bind f) P) :
    Wp T Wx σ R c r fun b H => ∃ (e : Cf) (a : α), e.H = H ∧ Ext c e ∧ MP.RelM T e ∧ R e a b ∧ Wp T Wx σ R' e (f a e.m) P := by
  cases r with
  | ok a m => exact fun ρ H b x y z => ⟨⟨ρ, m, H, c.res⟩, a, rfl, x, y, z, Wp.ext h x⟩
  | exc k fs m => exact h
  | stuck => exact h
theorem Wp.now {a : α} {m : M} {b : β} (h : Wp T Wx σ R c (.ok a c.m) Q) (R0 : MP.RelM T c) (z : R c a b) : Q b c.H := h c.ρ c.H b (Ext.refl c) R0 z
end

/-- the reading of an expression -/
def tE (T : Tb) (Wx : WX) (r : Sl → M → Res W) : TE := fun σ H Q => ∃ (c : Cf) (σw : Sl), c.H = H ∧ MP.RelM T c ∧ RelS T c σw σ ∧ Wp T Wx σ (RelW T) c (r σw c.m) Q
/-- .. of an argument list -/
def tEs (T : Tb) (Wx : WX) (r : Sl → M → Res (List W)) : TA := fun σ H Q => ∃ (c : Cf) (σw : Sl), c.H = H ∧ MP.RelM T c ∧ RelS T c σw σ ∧ Wp T Wx σ (RelWs T) c (r σw c.m) Q
/-- .. of a test -/
def tB (T : Tb) (Wx : WX) (r : Sl → M → Res Bool) : TT := fun σ H Q => ∃ (c : Cf) (σw : Sl), c.H = H ∧ MP.RelM T c ∧ RelS T c σw σ ∧ Wp T Wx σ (fun _ a b => a = b) c (r σw c.m) Q

/-- what a statement comes to -/
inductive SR where
  | nx (σ : Sl) (m : M)
  | rt (w : W) (m : M)
  | bk (σ : Sl) (m : M)
  | ex (σ : Sl) (c : Nat) (fs : List (Nat × W)) (m : M)
  | stuck
  deriving Inhabited
def WpS (T : Tb) (Wx : WX) (c : Cf) (r : SR) (D : Ends) : Prop :=
  match r with
  | .nx σw m => ∀ ρ H σ, Ext c ⟨ρ, m, H, c.res⟩ → MP.RelM T ⟨ρ, m, H, c.res⟩ → RelS T ⟨ρ, m, H, c.res⟩ σw σ → D.nx σ H
  | .rt w m => ∀ ρ H v, Ext c ⟨ρ, m, H, c.res⟩ → MP.RelM T ⟨ρ, m, H, c.res⟩ → RelW T ⟨ρ, m, H, c.res⟩ w v → D.rt v H
  | .bk σw m => ∀ ρ H σ, Ext c ⟨ρ, m, H, c.res⟩ → MP.RelM T ⟨ρ, m, H, c.res⟩ → RelS T ⟨ρ, m, H, c.res⟩ σw σ → D.bk σ H
  | .ex σw k fs m => ∀ ρ H σ cls d, Ext c ⟨ρ, m, H, c.res⟩ → MP.RelM T ⟨ρ, m, H, c.res⟩ → RelS T ⟨ρ, m, H, c.res⟩ σw σ → ExcIs T ⟨ρ, m, H, c.res⟩ k fs cls d → Wx cls d σ H
  | .stuck => False
theorem WpS.ext {T : Tb} {Wx : WX} {c d : Cf} {r : SR} {D : Ends} (h : WpS T Wx c r D) (e : Ext c d) (er : d.res = c.res := by rfl) : WpS T Wx d r D := by
  cases r with
  | nx σw m => intro ρ H σ; rw [er]; exact fun x y z => h ρ H σ (e.trans x) y z
  | rt w m => intro ρ H v; rw [er]; exact fun x y z => h ρ H v (e.trans x) y z
  | bk σw m => intro ρ H σ; rw [er]; exact fun x y z => h ρ H σ (e.trans x) y z
  | ex σw k fs m => intro ρ H σ cls dd; rw [er]; exact fun x y z q => h ρ H σ cls dd (e.trans x) y z q
  | stuck => exact h
/-- the reading of a statement -/
def tSt (T : Tb) (Wx : WX) (r : Sl → M → SR) : TS := fun D σ H => ∃ (c : Cf) (σw : Sl), c.H = H ∧ MP.RelM T c ∧ RelS T c σw σ ∧ WpS T Wx c (r σw c.m) D

section
variable {X : Cx} {e : Expr} {es : List Expr} {st : Stmt} {sts : List Stmt}
theorem PE.imp' {t t' : TE} (h : PE X e t) (k : ∀ σ H Q, t' σ H Q → t σ H Q) : PE X e t' := ⟨fun pins s σ H Q I q => h.run pins s σ H Q I (k σ H Q q)⟩
theorem PA.imp' {t t' : TA} (h : PA X es t) (k : ∀ σ H Q, t' σ H Q → t σ H Q) : PA X es t' := ⟨fun pos pins s σ H Q I q => h.run pos pins s σ H Q I (k σ H Q q)⟩
theorem PT.imp' {t t' : TT} (h : PT X e t) (k : ∀ σ H Q, t' σ H Q → t σ H Q) : PT X e t' := ⟨fun pins s σ H Q I q => h.run pins s σ H Q I (k σ H Q q)⟩
theorem PW.imp' {t t' : TT} (h : PW X e t) (k : ∀ σ H Q, t' σ H Q → t σ H Q) : PW X e t' := ⟨fun wh pins s σ H Q I q => h.run wh pins s σ H Q I (k σ H Q q)⟩
theorem PS.imp' {t t' : TS} (h : PS X st t) (k : ∀ D σ H, t' D σ H → t D σ H) : PS X st t' := ⟨fun pins s σ H D I q => h.run pins s σ H D I (k D σ H q)⟩
theorem PSs.imp' {t t' : TS} (h : PSs X sts t) (k : ∀ D σ H, t' D σ H → t D σ H) : PSs X sts t' := ⟨fun pins s σ H D I q => h.run pins s σ H D I (k D σ H q)⟩
end

/-! ### by values: an operation of the small interpreter and the layer's rule -/
/-- nothing is raised -/
def noX : WX := fun _ _ _ _ => False
def rW2 (T : Tb) (sem : W → W → M → Res W) : R2 := fun x y H Q => ∃ (c : Cf) (a b : W), c.H = H ∧ MP.RelM T c ∧ RelW T c a x ∧ RelW T c b y ∧ Wp T noX [] (RelW T) c (sem a b c.m) Q
def rW1 (T : Tb) (sem : W → M → Res W) : V → Hp → VK → Prop := fun x H Q => ∃ (c : Cf) (a : W), c.H = H ∧ MP.RelM T c ∧ RelW T c a x ∧ Wp T noX [] (RelW T) c (sem a c.m) Q
def rWn (T : Tb) (sem : List W → M → Res W) : List V → Hp → VK → Prop := fun xs H Q => ∃ (c : Cf) (as : List W), c.H = H ∧ MP.RelM T c ∧ RelWs T c as xs ∧ Wp T noX [] (RelW T) c (sem as c.m) Q
/-- an operation that raises nothing -/
def NoExc {α : Type} (r : Res α) : Prop := ∀ k fs m, r ≠ .exc k fs m
theorem Wp.noX_of {α β : Type} {T : Tb} {Wx : WX} {σ : St} {R : Cf → α → β → Prop} {c : Cf} {r : Res α} {Q : β → Hp → Prop} (h : Wp T Wx σ R c r Q) (n : NoExc r) : Wp T noX [] R c r Q := by
  cases r with
  | ok a m => exact h
  | exc k fs m => exact absurd rfl (n k fs m)
  | stuck => exact h

section
variable {X : Cx} {T : Tb} {Wx : WX} {a b : Expr} {pos : Pos} {ra rb : Sl → M → Res W}
/-- two parts, then an operation -/
def two (ra rb : Sl → M → Res W) (sem : W → W → M → Res W) : Sl → M → Res W := fun σ m => (ra σ m).bind fun x m1 => (rb σ m1).bind fun y m2 => sem x y m2
theorem two_tOp {sem : W → W → M → Res W} {r : R2} (hr : ∀ x y H Q, rW2 T sem x y H Q → r x y H Q) (hn : ∀ x y m, NoExc (sem x y m)) (σ : St) (H : Hp) (Q : VK) (h : tE T Wx (two ra rb sem) σ H Q) : tOp r (tE T Wx ra) (tE T Wx rb) σ H Q := by
  obtain ⟨c, σw, eH, R, S, w⟩ := h
  refine ⟨c, σw, eH, R, S, (Wp.bind (R := RelW T) w).mono ?_⟩
  rintro x H1 ⟨d, wx, e1, ext, R1, rx, w1⟩
  refine ⟨d, σw, e1, R1, S.ext R ext, (Wp.bind (R := RelW T) w1).mono ?_⟩
  rintro y H2 ⟨d2, wy, e2, ext2, R2, ry, w2⟩
  exact hr x y H2 Q ⟨d2, wx, wy, e2, R2, rx.ext R1 ext2, ry, w2.noX_of (hn _ _ _)⟩
/-- one part, then an operation -/
def one (ra : Sl → M → Res W) (sem : W → M → Res W) : Sl → M → Res W := fun σ m => (ra σ m).bind sem
theorem one_tUn {sem : W → M → Res W} {r : V → Hp → VK → Prop} (hr : ∀ x H Q, rW1 T sem x H Q → r x H Q) (hn : ∀ x m, NoExc (sem x m)) (σ : St) (H : Hp) (Q : VK) (h : tE T Wx (one ra sem) σ H Q) : tUn r (tE T Wx ra) σ H Q := by
  obtain ⟨c, σw, eH, R, S, w⟩ := h
  refine ⟨c, σw, eH, R, S, (Wp.bind (R := RelW T) w).mono ?_⟩
  rintro x H1 ⟨d, wx, e1, ext, R1, rx, w1⟩
  exact hr x H1 Q ⟨d, wx, e1, R1, rx, w1.noX_of (hn _ _)⟩

/-! ### names, constants, displays -/
def eVar (i : Nat) : Sl → M → Res W := fun σ m => match σ[i]? with
  | some (some w) => .ok w m
  | _ => .stuck
theorem tE_var (i : Nat) (σ : St) (H : Hp) (Q : VK) (h : tE T Wx (eVar i) σ H Q) : tVar i σ H Q := by
  obtain ⟨c, σw, eH, R, S, w⟩ := h
  unfold eVar at w
  split at w
  · rename_i x hx
    obtain ⟨v, e1, e2⟩ := S.at_ i x hx
    exact ⟨v, e1, eH ▸ w c.ρ c.H v (Ext.refl c) R e2⟩
  · exact w.elim
def eC (w : W) : Sl → M → Res W := fun _ m => .ok w m
theorem tE_C {w : W} {v : V} (hv : ∀ c, RelW T c w v) (σ : St) (H : Hp) (Q : VK) (h : tE T Wx (eC w) σ H Q) : tC v σ H Q := by
  obtain ⟨c, σw, eH, R, S, q⟩ := h
  exact eH ▸ q c.ρ c.H v (Ext.refl c) R (hv c)
/-- arguments, from the left -/
def eNil : Sl → M → Res (List W) := fun _ m => .ok [] m
def eCons (ra : Sl → M → Res W) (rs : Sl → M → Res (List W)) : Sl → M → Res (List W) := fun σ m => (ra σ m).bind fun x m1 => (rs σ m1).bind fun xs m2 => .ok (x :: xs) m2
theorem tEs_nil (σ : St) (H : Hp) (Q : List V → Hp → Prop) (h : tEs T Wx eNil σ H Q) : tNil σ H Q := by
  obtain ⟨c, σw, eH, R, S, q⟩ := h
  exact eH ▸ q c.ρ c.H [] (Ext.refl c) R RelWs.nil
theorem tEs_cons {rs : Sl → M → Res (List W)} (σ : St) (H : Hp) (Q : List V → Hp → Prop) (h : tEs T Wx (eCons ra rs) σ H Q) : tCons (tE T Wx ra) (tEs T Wx rs) σ H Q := by
  obtain ⟨c, σw, eH, R, S, w⟩ := h
  refine ⟨c, σw, eH, R, S, (Wp.bind (R := RelW T) w).mono ?_⟩
  rintro x H1 ⟨d, wx, e1, ext, R1, rx, w1⟩
  refine ⟨d, σw, e1, R1, S.ext R ext, (Wp.bind (R := RelWs T) w1).mono ?_⟩
  rintro xs H2 ⟨d2, ws, e2, ext2, R2, rs, w2⟩
  exact e2 ▸ w2 d2.ρ d2.H _ (Ext.refl d2) R2 (RelWs.cons (rx.ext R1 ext2) rs)
/-- a tuple; its length has a bound -/
def mkTup (xs : List W) (m : M) : Res W := if xs.length ≤ sizeLine then .ok (.tup xs) m else .stuck
def eTup (rs : Sl → M → Res (List W)) : Sl → M → Res W := fun σ m => (rs σ m).bind mkTup
theorem tE_tup {rs : Sl → M → Res (List W)} (σ : St) (H : Hp) (Q : VK) (h : tE T Wx (eTup rs) σ H Q) : tTup (tEs T Wx rs) σ H Q := by
  obtain ⟨c, σw, eH, R, S, w⟩ := h
  refine ⟨c, σw, eH, R, S, (Wp.bind (R := RelWs T) w).mono ?_⟩
  rintro xs H1 ⟨d, ws, e1, ext, R1, rx, w1⟩
  unfold mkTup at w1
  split at w1
  · rename_i hl
    subst e1
    refine ⟨by rw [← rx.length]; exact hl, fun p hp => ?_⟩
    exact w1 d.ρ (upd d.H p (.tup xs)) (.ref p) (R1.extPut hp) (R1.put hp) ⟨p, xs, rfl, upd_same, rx.ext R1 (R1.extPut hp)⟩
  · exact w1.elim
/-- a list, frozen or a new thing -/
def mkLst (frz : Bool) (xs : List W) (m : M) : Res W := if xs.length ≤ sizeLine then (if frz then .ok (.lst xs) m else .ok (.ref m.length) (m ++ [some (.lst xs)])) else .stuck
theorem mkLst_ok {frz : Bool} {ws : List W} {xs : List V} {d : Cf} {σ : St} {Q : VK} (R1 : MP.RelM T d) (rx : RelWs T d ws xs) (w1 : Wp T Wx σ (RelW T) d (mkLst frz ws d.m) Q) : xs.length ≤ sizeLine ∧ ∀ p, d.H p = none → Q (.ref p) (upd d.H p (.lst xs)) := by
  unfold mkLst at w1
  split at w1
  · rename_i hl
    refine ⟨by rw [← rx.length]; exact hl, fun p hp => ?_⟩
    cases frz with
    | true =>
      have n : ¬ Own (d.put p (.lst xs)) p := fun z => by
        rcases z with z | z
        · exact R1.fresh hp (Alive.mem (c := d) z)
        · obtain ⟨o, e⟩ := R1.resH p z
          rw [hp] at e; cases e
      exact w1 d.ρ (upd d.H p (.lst xs)) (.ref p) (R1.extPut hp) (R1.put hp) ⟨p, xs, rfl, upd_same, n, rx.ext R1 (R1.extPut hp)⟩
    | false =>
      have x := R1.extAdd (u := .lst xs) (o := .lst ws) hp
      exact w1 (d.ρ ++ [p]) (upd d.H p (.lst xs)) (.ref p) x (R1.add hp ⟨xs, upd_same, rx.ext R1 x⟩) ⟨p, Cf.add_ref R1, rfl⟩
  · exact w1.elim
def eLst (frz : Bool) (rs : Sl → M → Res (List W)) : Sl → M → Res W := fun σ m => (rs σ m).bind (mkLst frz)
theorem tE_lst {frz : Bool} {rs : Sl → M → Res (List W)} (σ : St) (H : Hp) (Q : VK) (h : tE T Wx (eLst frz rs) σ H Q) : tLst (tEs T Wx rs) σ H Q := by
  obtain ⟨c, σw, eH, R, S, w⟩ := h
  refine ⟨c, σw, eH, R, S, (Wp.bind (R := RelWs T) w).mono ?_⟩
  rintro xs H1 ⟨d, ws, e1, ext, R1, rx, w1⟩
  subst e1
  exact mkLst_ok R1 rx w1
end
end MP
end

section
set_option maxHeartbeats 4000000
/-! MPOps: the operators of the small interpreter, by the hand layer's rules. -/
namespace MP
open PySem PySem.Spec PyProof.Rows L2

/-! ### lists and tuples that are read -/
def lstOf (m : M) : W → Option (List W)
  | .lst xs => some xs
  | .ref i => match m[i]? with
    | some (some (.lst xs)) => some xs
    | _ => none
  | _ => none
def rdL (m : M) : W → Option (List W)
  | .kl xs => some xs
  | .lst xs => some xs
  | .ref i => match m[i]? with
    | some (some (.lst xs)) => some xs
    | _ => none
  | _ => none
def rdT : W → Option (List W)
  | .tup xs => some xs
  | .kt xs => some xs
  | _ => none
section
variable {T : Tb} {c : Cf} {w : W} {v : V} {xs : List W}
theorem ref_lst (R : MP.RelM T c) {i : Nat} (h : c.m[i]? = some (some (.lst xs))) (r : RelW T c (.ref i) v) : ∃ a vs, v = .ref a ∧ c.ρ[i]? = some a ∧ c.H a = some (.lst vs) ∧ RelWs T c xs vs := by
  obtain ⟨a, e1, e2⟩ := (show ∃ a, _ from r)
  obtain ⟨vs, q1, q2⟩ := R.obj i _ a h e1
  exact ⟨a, vs, e2, e1, q1, q2⟩
theorem lstOf_rel (R : MP.RelM T c) (h : lstOf c.m w = some xs) (r : RelW T c w v) : ∃ a vs, v = .ref a ∧ c.H a = some (.lst vs) ∧ RelWs T c xs vs := by
  unfold lstOf at h
  split at h
  · cases h
    obtain ⟨a, vs, e1, e2, _, e3⟩ := (show ∃ a vs, _ from r)
    exact ⟨a, vs, e1, e2, e3⟩
  · split at h
    · rename_i q
      cases h
      obtain ⟨a, vs, e1, _, e2, e3⟩ := ref_lst R q r
      exact ⟨a, vs, e1, e2, e3⟩
    · cases h
  · cases h
theorem rdL_rel (R : MP.RelM T c) (h : rdL c.m w = some xs) (r : RelW T c w v) : ∃ a vs, v = .ref a ∧ SqL T.K c.H a vs ∧ RelWs T c xs vs := by
  unfold rdL at h
  split at h
  · cases h
    obtain ⟨a, vs, e1, ⟨o, e2⟩, e3⟩ := (show ∃ a vs, _ from r)
    exact ⟨a, vs, e1, .inl (.inr ⟨o, e2⟩), e3⟩
  · cases h
    obtain ⟨a, vs, e1, e2, _, e3⟩ := (show ∃ a vs, _ from r)
    exact ⟨a, vs, e1, .inl (.inl e2), e3⟩
  · split at h
    · rename_i q
      cases h
      obtain ⟨a, vs, e1, _, e2, e3⟩ := ref_lst R q r
      exact ⟨a, vs, e1, .inl (.inl e2), e3⟩
    · cases h
  · cases h
theorem rdT_rel (h : rdT w = some xs) (r : RelW T c w v) : ∃ a vs, v = .ref a ∧ SqT T.K c.H a vs ∧ RelWs T c xs vs := by
  unfold rdT at h
  split at h
  · cases h
    obtain ⟨a, vs, e1, e2, e3⟩ := (show ∃ a vs, _ from r)
    exact ⟨a, vs, e1, .inl (.inl e2), e3⟩
  · cases h
    exact r
  · cases h
end

/-! ### data: what == and in look at -/
def dat (m : M) : Nat → W → Option PyData
  | _, .non => some .none
  | _, .bl b => some (.bool b)
  | _, .int i => some (.int i)
  | _, .str x => some (.str x)
  | n + 1, .tup xs => (xs.mapM (dat m n)).map .tuple
  | n + 1, .kt xs => (xs.mapM (dat m n)).map .tuple
  | n + 1, .lst xs => (xs.mapM (dat m n)).map .list
  | n + 1, .kl xs => (xs.mapM (dat m n)).map .list
  | n + 1, .ref i => match m[i]? with
    | some (some (.lst xs)) => (xs.mapM (dat m n)).map .list
    | _ => none
  | _, _ => none
section
variable {T : Tb} {c : Cf}
theorem mapM_dat {n : Nat} (ih : ∀ (w : W) (v : V) (d : PyData), dat c.m n w = some d → RelW T c w v → Dp T.K c.H v d ∧ d.plain = true ∧ d.depth ≤ n) :
    ∀ (xs : List W) (vs : List V) (ds : List PyData), xs.mapM (dat c.m n) = some ds → RelWs T c xs vs → DpAll T.K c.H vs ds ∧ PyData.plainAll ds = true ∧ PyData.depthAll ds ≤ n
  | [], vs, ds, h, r => by
    cases (show vs = [] from r)
    cases (show some [] = some ds from h)
    exact ⟨.nil, rfl, Nat.zero_le _⟩
  | x :: xs, vs, ds, h, r => by
    obtain ⟨v, q, e1, e2, e3⟩ := (show ∃ v r, _ from r)
    subst e1
    rw [List.mapM_cons] at h
    cases hx : dat c.m n x with
    | none => rw [hx] at h; cases h
    | some d =>
      rw [hx] at h
      cases hs : xs.mapM (dat c.m n) with
      | none => rw [hs] at h; cases h
      | some es =>
        rw [hs] at h
        cases (show some (d :: es) = some ds from h)
        obtain ⟨a1, a2, a3⟩ := ih x v d hx e2
        obtain ⟨b1, b2, b3⟩ := mapM_dat ih xs q es hs e3
        refine ⟨.cons a1 b1, ?_, ?_⟩
        · show (d.plain && PyData.plainAll es) = true
          rw [a2, b2]; rfl
        · show max d.depth (PyData.depthAll es) ≤ n
          omega
theorem dat_rel (R : MP.RelM T c) : ∀ (n : Nat) (w : W) (v : V) (d : PyData), dat c.m n w = some d → RelW T c w v → Dp T.K c.H v d ∧ d.plain = true ∧ d.depth ≤ n := by
  intro n
  induction n with
  | zero =>
    intro w v d h r
    cases w <;> simp only [dat] at h <;> first | (cases h; cases r; exact ⟨by constructor, rfl, Nat.zero_le _⟩) | cases h
  | succ n ih =>
    intro w v d h r
    have lists : ∀ {a : Addr} {vs : List V} {xs : List W}, SqL T.K c.H a vs → RelWs T c xs vs → (xs.mapM (dat c.m n)).map .list = some d → Dp T.K c.H (.ref a) d ∧ d.plain = true ∧ d.depth ≤ n + 1 := by
      intro a vs xs s r h
      cases hs : xs.mapM (dat c.m n) with
      | none => rw [hs] at h; cases h
      | some ds =>
        rw [hs] at h
        cases h
        obtain ⟨a1, a2, a3⟩ := mapM_dat ih xs vs ds hs r
        exact ⟨.lst s a1, a2, by show PyData.depthAll ds + 1 ≤ _; omega⟩
    have tups : ∀ {a : Addr} {vs : List V} {xs : List W}, SqT T.K c.H a vs → RelWs T c xs vs → (xs.mapM (dat c.m n)).map .tuple = some d → Dp T.K c.H (.ref a) d ∧ d.plain = true ∧ d.depth ≤ n + 1 := by
      intro a vs xs s r h
      cases hs : xs.mapM (dat c.m n) with
      | none => rw [hs] at h; cases h
      | some ds =>
        rw [hs] at h
        cases h
        obtain ⟨a1, a2, a3⟩ := mapM_dat ih xs vs ds hs r
        exact ⟨.tup s a1, a2, by show PyData.depthAll ds + 1 ≤ _; omega⟩
    cases w with
    | non => simp only [dat] at h; cases h; cases r; exact ⟨by constructor, rfl, Nat.zero_le _⟩
    | bl b => simp only [dat] at h; cases h; cases r; exact ⟨by constructor, rfl, Nat.zero_le _⟩
    | int b => simp only [dat] at h; cases h; cases r; exact ⟨by constructor, rfl, Nat.zero_le _⟩
    | str b => simp only [dat] at h; cases h; cases r; exact ⟨by constructor, rfl, Nat.zero_le _⟩
    | tup xs =>
      obtain ⟨a, vs, e1, e2, e3⟩ := rdT_rel (w := .tup xs) rfl r
      subst e1; exact tups e2 e3 h
    | kt xs =>
      obtain ⟨a, vs, e1, e2, e3⟩ := rdT_rel (w := .kt xs) rfl r
      subst e1; exact tups e2 e3 h
    | lst xs =>
      obtain ⟨a, vs, e1, e2, e3⟩ := rdL_rel (w := .lst xs) R rfl r
      subst e1; exact lists e2 e3 h
    | kl xs =>
      obtain ⟨a, vs, e1, e2, e3⟩ := rdL_rel (w := .kl xs) R rfl r
      subst e1; exact lists e2 e3 h
    | ref i =>
      simp only [dat] at h
      split at h
      · rename_i xs q
        obtain ⟨a, vs, e1, e2, e3⟩ := rdL_rel (w := .ref i) R (show rdL c.m (.ref i) = some xs by simp only [rdL, q]) r
        subst e1; exact lists e2 e3 h
      · cases h
    | fn k => simp only [dat] at h; cases h
    | kd k => simp only [dat] at h; cases h
end

/-! ### arithmetic, + and * -/
inductive BOp where
  | add | sub | mul | mod | fdiv | pow
  deriving DecidableEq
def BOp.py : BOp → Operator
  | .add => .Add | .sub => .Sub | .mul => .Mult | .mod => .Mod | .fdiv => .FloorDiv | .pow => .Pow
def repStr (x : Str) (k : Int) : Str := ⟨(List.replicate k.toNat x.cps.toList).flatten.toArray⟩
def repS (x : Str) (k : Int) : Str := ⟨(List.replicate k.toNat x.cps).foldl (· ++ ·) #[]⟩
theorem repS_len (x : Str) : ∀ (n : Nat) (acc : Array Nat), ((List.replicate n x.cps).foldl (· ++ ·) acc).size = acc.size + n * x.cps.size
  | 0, acc => by simp
  | n + 1, acc => by
    rw [List.replicate_succ, List.foldl_cons, repS_len x n]
    simp only [Array.size_append, Nat.succ_mul]
    omega
def addSem (frz : Bool) (a b : W) (m : M) : Res W :=
  match a, b with
  | .int i, .int j => .ok (.int (i + j)) m
  | .str x, .str y => if x.length + y.length ≤ sizeLine then .ok (.str (x ++ y)) m else .stuck
  | .tup xs, .tup ys => if xs.length + ys.length ≤ sizeLine then .ok (.tup (xs ++ ys)) m else .stuck
  | a, b => match lstOf m a, lstOf m b with
    | some xs, some ys => mkLst frz (xs ++ ys) m
    | _, _ => .stuck
def mulSem (frz : Bool) (a b : W) (m : M) : Res W :=
  match a, b with
  | .int i, .int j => if (-(2 ^ 64) < i ∧ i < 2 ^ 64) ∨ (-(2 ^ 64) < j ∧ j < 2 ^ 64) then .ok (.int (i * j)) m else .stuck
  | .str x, .int k => if 0 ≤ k ∧ k < 2 ^ 31 ∧ x.length ≤ 1000000 ∧ x.length * k.toNat ≤ 1000000 then .ok (.str (Txt.mul x k)) m else .stuck
  | a, .int k => match lstOf m a with
    | some xs => if (-(2 ^ 63) ≤ k ∧ k < 2 ^ 63) ∧ xs.length * k.toNat ≤ sizeLine then mkLst frz (List.replicate k.toNat xs).flatten m else .stuck
    | none => .stuck
  | _, _ => .stuck
def binSem (frz : Bool) (op : BOp) (a b : W) (m : M) : Res W :=
  match op with
  | .add => addSem frz a b m
  | .mul => mulSem frz a b m
  | .sub => match a, b with
    | .int i, .int j => .ok (.int (i - j)) m
    | _, _ => .stuck
  | .mod => match a, b with
    | .int i, .int j => if 0 < j then .ok (.int (i % j)) m else .stuck
    | _, _ => .stuck
  | .fdiv => match a, b with
    | .int i, .int j => if 0 < j ∧ j < 1073741824 then .ok (.int (i / j)) m else .stuck
    | _, _ => .stuck
  | .pow => match a, b with
    | .int i, .int j => if 0 ≤ j ∧ j ≤ 1000000 ∧ i.natAbs < 2 ^ 64 then .ok (.int (i ^ j.toNat)) m else .stuck
    | _, _ => .stuck
theorem mkLst_noexc (frz : Bool) (xs : List W) (m : M) : NoExc (mkLst frz xs m) := by
  unfold mkLst; intro k fs m'; split <;> (try split) <;> simp
theorem binSem_noexc (frz : Bool) (op : BOp) (a b : W) (m : M) : NoExc (binSem frz op a b m) := by
  intro k fs m'
  cases op <;> simp only [binSem, addSem, mulSem]
  all_goals (repeat' split) <;> first | exact mkLst_noexc _ _ _ k fs m' | simp
section
variable {X : Cx} {T : Tb}
theorem op_add' (hK : X.K = T.K) (frz : Bool) : OpR X (binaryOp .Add) (rW2 T (addSem frz)) := by
  intro pins s σ H x y v u Q I rx ry ⟨c, a, b, eH, R, ra, rb, w⟩
  subst eH
  unfold addSem at w
  split at w
  · cases ra; cases rb
    exact op_add pins s σ _ _ _ v u Q I rx ry ⟨_, _, rfl, rfl, w c.ρ c.H _ (Ext.refl c) R rfl⟩
  · split at w
    · rename_i hl
      cases ra; cases rb
      exact op_add_str pins s σ _ _ _ v u Q I rx ry ⟨_, _, rfl, rfl, hl, w c.ρ c.H _ (Ext.refl c) R rfl⟩
    · exact w.elim
  · rename_i xs ys
    split at w
    · rename_i hl
      obtain ⟨p, ps, e1, e2, e3⟩ := (show ∃ a vs, _ from ra)
      obtain ⟨q, qs, f1, f2, f3⟩ := (show ∃ a vs, _ from rb)
      subst e1 f1
      have hlen : ps.length + qs.length ≤ sizeLine := by rw [← e3.length, ← f3.length]; exact hl
      refine op_catA pins s σ _ _ _ v u Q I rx ry ⟨p, q, ps, qs, rfl, rfl, .inl (.inl e2), .inl (.inl f2), hlen, fun h0 => ?_, fun h0 h1 => ?_, fun h0 h1 n hn => ?_⟩
      · have : xs = [] := List.length_eq_zero_iff.mp (by rw [e3.length, h0]; rfl)
        subst this
        exact w c.ρ c.H _ (Ext.refl c) R ⟨q, qs, rfl, f2, f3⟩
      · have : ys = [] := List.length_eq_zero_iff.mp (by rw [f3.length, h1]; rfl)
        subst this
        rw [List.append_nil] at w
        exact w c.ρ c.H _ (Ext.refl c) R ⟨p, ps, rfl, e2, e3⟩
      · exact w c.ρ (upd c.H n (.tup (ps ++ qs))) (.ref n) (R.extPut hn) (R.put hn) ⟨n, _, rfl, upd_same, (e3.append f3).ext R (R.extPut hn)⟩
    · exact w.elim
  · split at w
    · rename_i xs ys hx hy
      obtain ⟨p, ps, e1, e2, e3⟩ := lstOf_rel R hx ra
      obtain ⟨q, qs, f1, f2, f3⟩ := lstOf_rel R hy rb
      subst e1 f1
      obtain ⟨z1, z2⟩ := mkLst_ok R (e3.append f3) w
      exact op_cat pins s σ _ _ _ v u Q I rx ry ⟨p, q, ps, qs, rfl, rfl, e2, f2, by rw [← List.length_append]; exact z1, z2⟩
    · exact w.elim
theorem Paired_rep {T : Tb} {c : Cf} {xs : List W} {vs : List V} (h : RelWs T c xs vs) : ∀ n : Nat, RelWs T c (List.replicate n xs).flatten (List.replicate n vs).flatten
  | 0 => RelWs.nil
  | n + 1 => by
    rw [List.replicate_succ, List.replicate_succ, List.flatten_cons, List.flatten_cons]
    exact h.append (Paired_rep h n)
theorem mul_str' {X : Cx} {pins : List (Addr × Obj)} {σ : L2.St} {s : Shared} {c : Cf} {x : Str} {k : Int} {v u : Value} {Q : VK} (I : Inv X pins σ c.H s) (rx : RelV (.str x) v) (ry : RelV (.int k) u) (h1 : 0 ≤ k) (h2 : k < 2 ^ 31) (h3 : x.length ≤ 1000000) (h4 : x.length * k.toNat ≤ 1000000) (q : Q (.str (Txt.mul x k)) c.H) :
    wpAny (model X.prog X.w) X.A (binaryOp .Mult v u) (EP X pins σ Q) X.xe s := by
  obtain ⟨t, rfl⟩ := rx
  obtain ⟨t2, rfl⟩ := ry
  refine SB.mul ⟨by simp; omega, fun _ _ => ?_, fun _ _ => ?_⟩ fun t' k' => ⟨.str (Txt.mul x k), c.H, I.tok _, ⟨_, rfl⟩, q⟩
  · have h5 : (1000000 : Int) ≤ (2 ^ 63 - 1) / k := by
      rw [Int.le_ediv_iff_mul_le (by omega)]
      omega
    omega
  · show decide (_ > sizeLine) = false
    rw [sizeLine_eq]; simp; omega
theorem op_mul' (hK : X.K = T.K) (frz : Bool) : OpR X (binaryOp .Mult) (rW2 T (mulSem frz)) := by
  intro pins s σ H x y v u Q I rx ry ⟨c, a, b, eH, R, ra, rb, w⟩
  subst eH
  unfold mulSem at w
  split at w
  · split at w
    · rename_i hb
      cases ra; cases rb
      exact op_mul pins s σ _ _ _ v u Q I rx ry ⟨_, _, rfl, rfl, hb, w c.ρ c.H _ (Ext.refl c) R rfl⟩
    · exact w.elim
  · split at w
    · rename_i hb
      cases ra; cases rb
      exact mul_str' I rx ry hb.1 hb.2.1 hb.2.2.1 hb.2.2.2 (w c.ρ c.H _ (Ext.refl c) R rfl)
    · exact w.elim
  · split at w
    · rename_i xs hx
      split at w
      · rename_i hb
        obtain ⟨p, ps, e1, e2, e3⟩ := lstOf_rel R hx ra
        cases rb
        subst e1
        obtain ⟨z1, z2⟩ := mkLst_ok R (Paired_rep e3 _) w
        exact op_rep pins s σ _ _ _ v u Q I rx ry ⟨p, _, ps, rfl, rfl, e2, hb.1.1, hb.1.2, by rw [← e3.length]; exact hb.2, z2⟩
      · exact w.elim
    · exact w.elim
  · exact w.elim
theorem op_bin' (hK : X.K = T.K) (frz : Bool) (op : BOp) : OpR X (binaryOp op.py) (rW2 T (binSem frz op)) := by
  cases op with
  | add => exact op_add' hK frz
  | mul => exact op_mul' hK frz
  | sub =>
    intro pins s σ H x y v u Q I rx ry ⟨c, a, b, eH, R, ra, rb, w⟩
    subst eH
    simp only [binSem] at w
    split at w
    · cases ra; cases rb
      exact op_sub pins s σ _ _ _ v u Q I rx ry ⟨_, _, rfl, rfl, w c.ρ c.H _ (Ext.refl c) R rfl⟩
    · exact w.elim
  | mod =>
    intro pins s σ H x y v u Q I rx ry ⟨c, a, b, eH, R, ra, rb, w⟩
    subst eH
    simp only [binSem] at w
    split at w
    · split at w
      · rename_i hb
        cases ra; cases rb
        exact op_mod pins s σ _ _ _ v u Q I rx ry ⟨_, _, rfl, rfl, hb, w c.ρ c.H _ (Ext.refl c) R rfl⟩
      · exact w.elim
    · exact w.elim
  | fdiv =>
    intro pins s σ H x y v u Q I rx ry ⟨c, a, b, eH, R, ra, rb, w⟩
    subst eH
    simp only [binSem] at w
    split at w
    · split at w
      · rename_i hb
        cases ra; cases rb
        exact op_fdiv pins s σ _ _ _ v u Q I rx ry ⟨_, _, rfl, rfl, hb, w c.ρ c.H _ (Ext.refl c) R rfl⟩
      · exact w.elim
    · exact w.elim
  | pow =>
    intro pins s σ H x y v u Q I rx ry ⟨c, a, b, eH, R, ra, rb, w⟩
    subst eH
    simp only [binSem] at w
    split at w
    · split at w
      · rename_i hb
        cases ra; cases rb
        exact op_pow pins s σ _ _ _ v u Q I rx ry ⟨_, _, rfl, rfl, hb, w c.ρ c.H _ (Ext.refl c) R rfl⟩
      · exact w.elim
    · exact w.elim
end
end MP
end

section
set_option maxHeartbeats 4000000
/-! MPCmp: comparisons, truth. -/
namespace MP
open PySem PySem.Spec PyProof.Rows L2

inductive COp where
  | eq | ne | lt | le | gt | ge | mem | nmem | is | nis
  deriving DecidableEq
def COp.py : COp → CmpOp
  | .eq => .Eq | .ne => .NotEq | .lt => .Lt | .le => .LtE | .gt => .Gt | .ge => .GtE | .mem => .In | .nmem => .NotIn | .is => .Is | .nis => .IsNot
def isDictW (m : M) : W → Bool
  | .ref i => match m[i]? with
    | some (some (.dK _)) => true
    | some (some (.dT _)) => true
    | _ => false
  | _ => false
def isStrB : W → Bool
  | .str _ => true
  | _ => false
def eqSem (neg : Bool) (a b : W) (m : M) : Res W := if (isDictW m a && isStrB b && !neg) = true then .ok (.bl false) m else
  match dat m 60 a, dat m 60 b with
  | some d, some e => .ok (.bl (PyData.eqv d e != neg)) m
  | _, _ => .stuck
def isNon : W → Bool
  | .non => true
  | _ => false
def isBl : W → Option Bool
  | .bl b => some b
  | _ => none
def isSem (neg : Bool) (a b : W) (m : M) : Res W :=
  match b with
  | .non => .ok (.bl (isNon a != neg)) m
  | .bl k => .ok (.bl ((isBl a == some k) != neg)) m
  | _ => .stuck
def keyOf : W → Option Key
  | .int i => some (.inl i)
  | .str x => some (.inr x)
  | _ => none
def dGet {κ : Type} [DecidableEq κ] (kvs : List (κ × W)) (k : κ) : Option W := (kvs.find? fun kv => decide (kv.1 = k)).map (·.2)
/-- a key looked up: none: cannot be told; some none: not there -/
def dictGet (o : O) (k : W) : Option (Option W) :=
  match o with
  | .dK kvs => (keyOf k).map (dGet kvs)
  | .dT kvs => match k with
    | .tup xs => (xs.mapM keyOf).map (dGet kvs)
    | _ => none
  | _ => none
/-- a text within a text -/
def strIn (x z : Str) : Bool := match x.cps.toList with
  | [c] => decide (c ∈ z.cps.toList)
  | _ => !(Builtin.Str.occurrences z x 0 z.length 1).isEmpty
def inSem (neg : Bool) (a b : W) (m : M) : Res W :=
  match b with
  | .str z => match a with
    | .str x => .ok (.bl (strIn x z != neg)) m
    | _ => .stuck
  | _ =>
    match rdL m b, rdT b with
    | some xs, _ => match dat m 60 a, xs.mapM (dat m 60) with
      | some d, some ds => .ok (.bl ((ds.any fun z => PyData.eqv z d) != neg)) m
      | _, _ => .stuck
    | none, some xs => match dat m 60 a, xs.mapM (dat m 60) with
      | some d, some ds => .ok (.bl ((ds.any fun z => PyData.eqv z d) != neg)) m
      | _, _ => .stuck
    | none, none => match b with
      | .ref i => match m[i]? with
        | some (some o) => match dictGet o a with
          | some r => .ok (.bl (r.isSome != neg)) m
          | none => .stuck
        | _ => .stuck
      | _ => .stuck
def ordSem (f : Int → Int → Bool) (g : List Nat → List Nat → Bool) (a b : W) (m : M) : Res W :=
  match a, b with
  | .int i, .int j => .ok (.bl (f i j)) m
  | .str x, .str y => .ok (.bl (g x.cps.toList y.cps.toList)) m
  | _, _ => .stuck
def intsW : List W → Option (List Int)
  | [] => some []
  | .int i :: xs => (intsW xs).map (i :: ·)
  | _ => none
/-- a < b: also of tuples of numbers -/
def ltSem (a b : W) (m : M) : Res W := match a, b with
  | .tup xs, .tup ys => match intsW xs, intsW ys with
    | some ns, some ms => .ok (.bl (HT.lexLt ns ms)) m
    | _, _ => .stuck
  | a, b => ordSem (fun i j => decide (i < j)) (fun x y => decide (x < y)) a b m
def cmpSem (op : COp) (a b : W) (m : M) : Res W :=
  match op with
  | .eq => eqSem false a b m
  | .ne => eqSem true a b m
  | .is => isSem false a b m
  | .nis => isSem true a b m
  | .mem => inSem false a b m
  | .nmem => inSem true a b m
  | .lt => ltSem a b m
  | .le => ordSem (fun i j => decide (i ≤ j)) (fun x y => !decide (y < x)) a b m
  | .gt => ordSem (fun i j => decide (j < i)) (fun x y => decide (y < x)) a b m
  | .ge => ordSem (fun i j => decide (j ≤ i)) (fun x y => !decide (x < y)) a b m
theorem cmpSem_noexc (op : COp) (a b : W) (m : M) : NoExc (cmpSem op a b m) := by
  intro k fs m'
  cases op <;> simp only [cmpSem, eqSem, isSem, inSem, ltSem, ordSem]
  all_goals (repeat' split) <;> simp
section
variable {X : Cx} {T : Tb}
theorem dat_reads {c : Cf} {pins : List (Addr × Obj)} {σ : L2.St} {s : Shared} (I : Inv X pins σ c.H s) (hK : X.K = T.K) (R : MP.RelM T c) {n : Nat} {a : W} {x : V} {v : Value} {d : PyData} (h : dat c.m n a = some d) (r : RelW T c a x) (rx : RelV x v) :
    (∃ as, Reads s.heap v d as) ∧ d.plain = true ∧ d.depth ≤ n := by
  obtain ⟨h1, h2, h3⟩ := dat_rel R n a x d h r
  exact ⟨Dp.reads I d x v (hK ▸ h1) rx, h2, h3⟩
theorem op_eq' (hK : X.K = T.K) (hu : X.A.units + 64 < cLine) : OpR X (compareOp .Eq) (rW2 T (eqSem false)) := by
  intro pins s σ H x y v u Q I rx ry ⟨c, a, b, eH, R, ra, rb, w⟩
  subst eH
  unfold eqSem at w
  split at w
  · rename_i hds
    simp only [Bool.and_eq_true] at hds
    obtain ⟨⟨h1, h2⟩, _⟩ := hds
    cases b with
    | str z =>
      cases rb
      cases a with
      | ref i =>
        obtain ⟨p, e1, e2⟩ := (show ∃ p, _ from ra)
        subst e2
        refine op_eq_dict hu pins s σ _ _ _ v u Q I rx ry ⟨p, z, rfl, rfl, ?_, w c.ρ c.H _ (Ext.refl c) R rfl⟩
        simp only [isDictW] at h1
        split at h1
        · rename_i kvs hm
          obtain ⟨us, q1, _⟩ := R.obj i _ p hm e1
          exact .inl ⟨us, q1⟩
        · rename_i kvs hm
          obtain ⟨us, q1, _⟩ := R.obj i _ p hm e1
          exact .inr ⟨us, q1⟩
        · cases h1
      | _ => cases h1
    | _ => cases h2
  split at w
  · rename_i d e hd he
    obtain ⟨⟨as, r1⟩, p1, q1⟩ := dat_reads I hK R hd ra rx
    obtain ⟨⟨bs, r2⟩, p2, q2⟩ := dat_reads I hK R he rb ry
    have z := w c.ρ c.H _ (Ext.refl c) R rfl
    exact SeqAt.eq_plain r1 r2 p1 p2 (by omega) ⟨.bl _, _, I, rfl, by simpa using z⟩
  · exact w.elim
theorem op_ne' (hK : X.K = T.K) (hu : X.A.units + 64 < cLine) : OpR X (compareOp .NotEq) (rW2 T (eqSem true)) := by
  intro pins s σ H x y v u Q I rx ry ⟨c, a, b, eH, R, ra, rb, w⟩
  subst eH
  unfold eqSem at w
  rw [if_neg (by simp)] at w
  split at w
  · rename_i d e hd he
    obtain ⟨⟨as, r1⟩, p1, q1⟩ := dat_reads I hK R hd ra rx
    obtain ⟨⟨bs, r2⟩, p2, q2⟩ := dat_reads I hK R he rb ry
    have z := w c.ρ c.H _ (Ext.refl c) R rfl
    exact SeqAt.ne_plain r1 r2 p1 p2 (by omega) ⟨.bl _, _, I, rfl, by simpa using z⟩
  · exact w.elim
theorem isNon_rel {c : Cf} {a : W} {x : V} (r : RelW T c a x) : isNon a = decide (x = V.non) := by
  cases a with
  | non => cases r; rfl
  | bl b => cases r; rfl
  | int b => cases r; rfl
  | str b => cases r; rfl
  | tup xs => obtain ⟨p, vs, e, _⟩ := (show ∃ a vs, _ from r); subst e; rfl
  | kt xs => obtain ⟨p, vs, e, _⟩ := (show ∃ a vs, _ from r); subst e; rfl
  | lst xs => obtain ⟨p, vs, e, _⟩ := (show ∃ a vs, _ from r); subst e; rfl
  | kl xs => obtain ⟨p, vs, e, _⟩ := (show ∃ a vs, _ from r); subst e; rfl
  | ref i => obtain ⟨p, e, f⟩ := (show ∃ a, _ from r); subst f; rfl
  | fn k => cases r; rfl
  | kd k => cases r; rfl
theorem isBl_rel {c : Cf} {a : W} {x : V} (r : RelW T c a x) (k : Bool) : (isBl a == some k) = decide (x = V.bl k) := by
  cases a with
  | non => cases r; rfl
  | bl b => cases r; cases b <;> cases k <;> rfl
  | int b => cases r; rfl
  | str b => cases r; rfl
  | tup xs => obtain ⟨p, vs, e, _⟩ := (show ∃ a vs, _ from r); subst e; rfl
  | kt xs => obtain ⟨p, vs, e, _⟩ := (show ∃ a vs, _ from r); subst e; rfl
  | lst xs => obtain ⟨p, vs, e, _⟩ := (show ∃ a vs, _ from r); subst e; rfl
  | kl xs => obtain ⟨p, vs, e, _⟩ := (show ∃ a vs, _ from r); subst e; rfl
  | ref i => obtain ⟨p, e, f⟩ := (show ∃ a, _ from r); subst f; rfl
  | fn k => cases r; rfl
  | kd k => cases r; rfl
theorem op_is_b {X : Cx} : OpR X (compareOp .Is) (fun x y H Q => ∃ k, y = .bl k ∧ Q (.bl (decide (x = .bl k))) H) := by
  intro pins s σ H x y v u Q I rx ry ⟨k, e, q⟩
  subst e
  cases (show u = Value.bool k from ry)
  by_cases e : x = .bl k
  · subst e
    cases (show v = Value.bool k from rx)
    exact wpAny_is_self rfl ⟨.bl true, H, I, rfl, by simpa using q⟩
  · have ne : v ≠ Value.bool k := fun z => by
      subst z
      exact e (RelV.inj rx (show RelV (.bl k) (.bool k) from rfl))
    have pl : plainIs v (.bool k) = true := by
      cases x <;> first
        | (cases rx; rfl)
        | (obtain ⟨t, rfl⟩ := rx; rfl)
    exact wpAny_is_other pl ne ⟨.bl false, H, I, rfl, by simpa [e] using q⟩
theorem op_nis_b {X : Cx} : OpR X (compareOp .IsNot) (fun x y H Q => ∃ k, y = .bl k ∧ Q (.bl (!decide (x = .bl k))) H) := by
  intro pins s σ H x y v u Q I rx ry ⟨k, e, q⟩
  subst e
  cases (show u = Value.bool k from ry)
  by_cases e : x = .bl k
  · subst e
    cases (show v = Value.bool k from rx)
    exact wpAny_isNot_self rfl ⟨.bl false, H, I, rfl, by simpa using q⟩
  · have ne : v ≠ Value.bool k := fun z => by
      subst z
      exact e (RelV.inj rx (show RelV (.bl k) (.bool k) from rfl))
    have pl : plainIs v (.bool k) = true := by
      cases x <;> first
        | (cases rx; rfl)
        | (obtain ⟨t, rfl⟩ := rx; rfl)
    exact wpAny_isNot_other pl ne ⟨.bl true, H, I, rfl, by simpa [e] using q⟩
theorem op_is' : OpR X (compareOp .Is) (rW2 T (isSem false)) := by
  intro pins s σ H x y v u Q I rx ry ⟨c, a, b, eH, R, ra, rb, w⟩
  subst eH
  unfold isSem at w
  split at w
  · cases rb
    have z := w c.ρ c.H _ (Ext.refl c) R rfl
    exact op_isN pins s σ _ _ _ v u Q I rx ry ⟨rfl, by rw [← isNon_rel ra]; simpa using z⟩
  · rename_i k
    cases rb
    have z := w c.ρ c.H _ (Ext.refl c) R rfl
    exact op_is_b pins s σ _ _ _ v u Q I rx ry ⟨k, rfl, by rw [← isBl_rel ra]; simpa using z⟩
  · exact w.elim
theorem op_nis' : OpR X (compareOp .IsNot) (rW2 T (isSem true)) := by
  intro pins s σ H x y v u Q I rx ry ⟨c, a, b, eH, R, ra, rb, w⟩
  subst eH
  unfold isSem at w
  split at w
  · cases rb
    have z := w c.ρ c.H _ (Ext.refl c) R rfl
    exact op_notN pins s σ _ _ _ v u Q I rx ry ⟨rfl, by rw [← isNon_rel ra]; simpa using z⟩
  · rename_i k
    cases rb
    have z := w c.ρ c.H _ (Ext.refl c) R rfl
    exact op_nis_b pins s σ _ _ _ v u Q I rx ry ⟨k, rfl, by rw [← isBl_rel ra]; simpa using z⟩
  · exact w.elim
/-! keys -/
theorem keyOf_rel {c : Cf} {a : W} {x : V} {k : Key} (h : keyOf a = some k) (r : RelW T c a x) : x = kV k := by
  cases a <;> simp only [keyOf] at h <;> first | (cases h; cases r; rfl) | cases h
theorem keysOf_rel {c : Cf} : ∀ {xs : List W} {vs : List V} {ks : List Key}, xs.mapM keyOf = some ks → RelWs T c xs vs → vs = ks.map kV
  | [], vs, ks, h, r => by
    cases (show vs = [] from r)
    cases (show some [] = some ks from h)
    rfl
  | x :: xs, vs, ks, h, r => by
    obtain ⟨v, q, e1, e2, e3⟩ := (show ∃ v r, _ from r)
    subst e1
    rw [List.mapM_cons] at h
    cases hx : keyOf x with
    | none => rw [hx] at h; cases h
    | some d =>
      rw [hx] at h
      cases hs : xs.mapM keyOf with
      | none => rw [hs] at h; cases h
      | some es =>
        rw [hs] at h
        cases (show some (d :: es) = some ks from h)
        rw [List.map_cons, keyOf_rel hx e2, keysOf_rel hs e3]
theorem dGet_rel {κ : Type} [DecidableEq κ] {c : Cf} {k : κ} : ∀ {kvs : List (κ × W)} {us : List (κ × V)}, Paired (fun p q => p.1 = q.1 ∧ RelW T c p.2 q.2) kvs us →
    (dGet kvs k = none ∧ valV us k = none) ∨ ∃ w v, dGet kvs k = some w ∧ valV us k = some v ∧ RelW T c w v
  | _, _, .nil => .inl ⟨rfl, rfl⟩
  | p :: kvs, q :: us, .cons h t => by
    obtain ⟨e, r⟩ := h
    have ih := dGet_rel (k := k) t
    unfold dGet valV at ih ⊢
    by_cases hk : p.1 = k
    · rw [List.find?_cons_of_pos (by simpa using hk), List.find?_cons_of_pos (by simpa [← e] using hk)]
      exact .inr ⟨p.2, q.2, rfl, rfl, r⟩
    · rw [List.find?_cons_of_neg (by simpa using hk), List.find?_cons_of_neg (by simpa [← e] using hk)]
      exact ih
/-- what a lookup says -/
theorem dictGet_rel {c : Cf} (R : MP.RelM T c) {i : Nat} {o : O} {k : W} {r : Option W} {x y : V} (ho : c.m[i]? = some (some o)) (h : dictGet o k = some r) (rx : RelW T c (.ref i) x) (ry : RelW T c k y) :
    ∃ a q, x = .ref a ∧ c.ρ[i]? = some a ∧ DGet c.H a y q ∧ ((r = none ∧ q = none) ∨ ∃ w v, r = some w ∧ q = some v ∧ RelW T c w v) := by
  obtain ⟨a, e1, e2⟩ := (show ∃ a, _ from rx)
  have ob := R.obj i o a ho e1
  unfold dictGet at h
  split at h
  · rename_i kvs
    obtain ⟨us, q1, q2⟩ := ob
    cases hk : keyOf k with
    | none => rw [hk] at h; cases h
    | some kk =>
      rw [hk] at h
      cases h
      have ey := keyOf_rel hk ry
      subst ey
      refine ⟨a, valV us kk, e2, e1, DGet.k q1, ?_⟩
      rcases dGet_rel (k := kk) q2 with ⟨z1, z2⟩ | ⟨w, v, z1, z2, z3⟩
      · exact .inl ⟨z1, z2⟩
      · exact .inr ⟨w, v, z1, z2, z3⟩
  · rename_i kvs
    obtain ⟨us, q1, q2⟩ := ob
    split at h
    · rename_i xs
      cases hk : xs.mapM keyOf with
      | none => rw [hk] at h; cases h
      | some ks =>
        rw [hk] at h
        cases h
        obtain ⟨b, vs, f1, f2, f3⟩ := (show ∃ a vs, _ from ry)
        subst f1
        have ev := keysOf_rel hk f3
        subst ev
        refine ⟨a, valV us ks, e2, e1, DGet.t q1 f2, ?_⟩
        rcases dGet_rel (k := ks) q2 with ⟨z1, z2⟩ | ⟨w, v, z1, z2, z3⟩
        · exact .inl ⟨z1, z2⟩
        · exact .inr ⟨w, v, z1, z2, z3⟩
    · cases h
  · cases h
theorem in_core (hK : X.K = T.K) (hu : X.A.units + 64 < cLine) (neg : Bool) (cop : CmpOp) (hc : cop = if neg then .NotIn else .In) : OpR X (compareOp cop) (rW2 T (inSem neg)) := by
  intro pins s σ H x y v u Q I rx ry ⟨c, a, b, eH, R, ra, rb, w⟩
  subst eH
  unfold inSem at w
  split at w
  · rename_i z
    split at w
    · rename_i xs0
      cases ra; cases rb
      have q := w c.ρ c.H _ (Ext.refl c) R rfl
      unfold strIn at q
      split at q
      · rename_i cc hcc
        have ex : xs0 = ⟨#[cc]⟩ := by
          obtain ⟨ar⟩ := xs0
          have : ar = #[cc] := Array.toList_inj.mp hcc
          rw [this]
        subst ex
        cases neg with
        | false => subst hc; exact op_in_sign pins s σ _ _ _ v u Q I rx ry ⟨cc, z, rfl, rfl, by simpa using q⟩
        | true => subst hc; exact op_notIn_sign pins s σ _ _ _ v u Q I rx ry ⟨cc, z, rfl, rfl, by simpa using q⟩
      · cases neg with
        | false => subst hc; exact op_in_str pins s σ _ _ _ v u Q I rx ry ⟨_, _, rfl, rfl, by simpa using q⟩
        | true => subst hc; exact op_notin_str pins s σ _ _ _ v u Q I rx ry ⟨_, _, rfl, rfl, by simpa using q⟩
    · exact w.elim
  · split at w
    · rename_i xs hl
      split at w
      · rename_i d ds hd hs
        obtain ⟨⟨as, r1⟩, p1, q1⟩ := dat_reads I hK R hd ra rx
        obtain ⟨p, vs, e1, e2, e3⟩ := rdL_rel R hl rb
        subst e1
        cases (show u = Value.ref p from ry)
        obtain ⟨m1, m2, m3⟩ := mapM_dat (fun w v d h r => dat_rel R 60 w v d h r) xs vs ds hs e3
        obtain ⟨bs, r2⟩ := Dp.reads I (.list ds) (.ref p) _ (.lst (hK ▸ e2) (hK ▸ m1)) rfl
        have q := w c.ρ c.H _ (Ext.refl c) R rfl
        cases neg with
        | false => subst hc; exact SeqAt.in_list_data r2 r1 m2 p1 (by omega) ⟨.bl _, _, I, rfl, by simpa using q⟩
        | true => subst hc; exact SeqAt.notIn_list_data r2 r1 m2 p1 (by omega) ⟨.bl _, _, I, rfl, by simpa using q⟩
      · exact w.elim
    · rename_i xs hl ht
      split at w
      · rename_i d ds hd hs
        obtain ⟨⟨as, r1⟩, p1, q1⟩ := dat_reads I hK R hd ra rx
        obtain ⟨p, vs, e1, e2, e3⟩ := rdT_rel ht rb
        subst e1
        cases (show u = Value.ref p from ry)
        obtain ⟨m1, m2, m3⟩ := mapM_dat (fun w v d h r => dat_rel R 60 w v d h r) xs vs ds hs e3
        obtain ⟨bs, r2⟩ := Dp.reads I (.tuple ds) (.ref p) _ (.tup (hK ▸ e2) (hK ▸ m1)) rfl
        have q := w c.ρ c.H _ (Ext.refl c) R rfl
        cases neg with
        | false => subst hc; exact SeqAt.in_tuple_data r2 r1 m2 p1 (by omega) ⟨.bl _, _, I, rfl, by simpa using q⟩
        | true => subst hc; exact SeqAt.notIn_tuple_data r2 r1 m2 p1 (by omega) ⟨.bl _, _, I, rfl, by simpa using q⟩
      · exact w.elim
    · split at w
      · rename_i i _ _ _ _
        split at w
        · rename_i o ho
          split at w
          · rename_i r hr
            obtain ⟨p, q, e1, _, g, rr⟩ := dictGet_rel R ho hr rb ra
            subst e1
            cases (show u = Value.ref p from ry)
            have z := w c.ρ c.H _ (Ext.refl c) R rfl
            have es : q.isSome = r.isSome := by
              rcases rr with ⟨a1, a2⟩ | ⟨_, _, a1, a2, _⟩ <;> rw [a1, a2] <;> rfl
            cases neg with
            | false => subst hc; exact d_in (by omega) I g rx fun s3 I3 => ⟨.bl _, _, I3, rfl, by rw [es]; simpa using z⟩
            | true => subst hc; exact d_notIn (by omega) I g rx fun s3 I3 => ⟨.bl _, _, I3, rfl, by rw [es]; simpa using z⟩
          · exact w.elim
        · exact w.elim
      · exact w.elim
theorem op_ord' {cop : CmpOp} {f : Int → Int → Bool} {g : List Nat → List Nat → Bool} (hi : OpR X (compareOp cop) (rI0 fun i j => .bl (f i j)))
    (hs : OpR X (compareOp cop) (fun x y H Q => ∃ i j, x = .str i ∧ y = .str j ∧ Q (.bl (g i.cps.toList j.cps.toList)) H)) : OpR X (compareOp cop) (rW2 T (ordSem f g)) := by
  intro pins s σ H x y v u Q I rx ry ⟨c, a, b, eH, R, ra, rb, w⟩
  subst eH
  unfold ordSem at w
  split at w
  · cases ra; cases rb
    exact hi pins s σ _ _ _ v u Q I rx ry ⟨_, _, rfl, rfl, w c.ρ c.H _ (Ext.refl c) R rfl⟩
  · cases ra; cases rb
    exact hs pins s σ _ _ _ v u Q I rx ry ⟨_, _, rfl, rfl, w c.ρ c.H _ (Ext.refl c) R rfl⟩
  · exact w.elim
theorem intsW_rel {c : Cf} : ∀ {xs : List W} {vs : List V} {ns : List Int}, intsW xs = some ns → RelWs T c xs vs → vs = ns.map V.int
  | [], vs, ns, h, r => by
    cases (show vs = [] from r)
    cases (show some [] = some ns from h)
    rfl
  | x :: xs, vs, ns, h, r => by
    obtain ⟨v, q, e1, e2, e3⟩ := (show ∃ v r, _ from r)
    subst e1
    cases x with
    | int i =>
      simp only [intsW, Option.map_eq_some_iff] at h
      obtain ⟨ms, h1, h2⟩ := h
      subst h2
      rw [intsW_rel h1 e3]
      cases (show v = V.int i from e2)
      rfl
    | _ => simp [intsW] at h
theorem op_lt' (hK : X.K = T.K) (hu : X.A.units + 64 < cLine) : OpR X (compareOp .Lt) (rW2 T ltSem) := by
  intro pins s σ H x y v u Q I rx ry ⟨c, a, b, eH, R, ra, rb, w⟩
  subst eH
  unfold ltSem at w
  split at w
  · split at w
    · rename_i xs ys _ _ ns ms h1 h2
      obtain ⟨p, vs, e1, e2, e3⟩ := (show ∃ a vs, _ from ra)
      obtain ⟨q, us, f1, f2, f3⟩ := (show ∃ a vs, _ from rb)
      have g1 := intsW_rel h1 e3
      have g2 := intsW_rel h2 f3
      subst g1 g2
      exact op_ltT (by omega) pins s σ _ _ _ v u Q I rx ry ⟨p, q, ns, ms, e1, f1, .inl (.inl e2), .inl (.inl f2), w c.ρ c.H _ (Ext.refl c) R rfl⟩
    · exact w.elim
  · exact op_ord' (T := T) (g := fun x y => decide (x < y)) op_lt op_lt_str pins s σ _ _ _ v u Q I rx ry ⟨c, a, b, rfl, R, ra, rb, w⟩
theorem op_cmp' (hK : X.K = T.K) (hu : X.A.units + 64 < cLine) (op : COp) : OpR X (compareOp op.py) (rW2 T (cmpSem op)) := by
  cases op with
  | eq => exact op_eq' hK hu
  | ne => exact op_ne' hK hu
  | is => exact op_is'
  | nis => exact op_nis'
  | mem => exact in_core hK hu false .In rfl
  | nmem => exact in_core hK hu true .NotIn rfl
  | lt => exact op_lt' hK hu
  | le => exact op_ord' (g := fun x y => !decide (y < x)) op_le op_le_str
  | gt => exact op_ord' (g := fun x y => decide (y < x)) op_gt op_gt_str
  | ge => exact op_ord' (g := fun x y => !decide (x < y)) op_ge op_ge_str
end
/-! ### truth -/
def truth (m : M) : W → Option Bool
  | .non => some false
  | .bl b => some b
  | .int i => some (i != 0)
  | .str y => if y.length ≤ sizeLine then some ((y.length : Int) != 0) else none
  | .tup xs => some (!xs.isEmpty)
  | .kt xs => some (!xs.isEmpty)
  | .lst xs => some (!xs.isEmpty)
  | .kl xs => some (!xs.isEmpty)
  | .ref i => match m[i]? with
    | some (some (.lst xs)) => some (!xs.isEmpty)
    | some (some (.dK kvs)) => some (!kvs.isEmpty)
    | _ => none
  | _ => none
theorem RelWs.emp {T : Tb} {c : Cf} {xs : List W} {vs : List V} (h : RelWs T c xs vs) : xs.isEmpty = vs.isEmpty := by
  cases xs with
  | nil => cases (show vs = [] from h); rfl
  | cons x xs => obtain ⟨v, r, e, _⟩ := (show ∃ v r, _ from h); subst e; rfl
theorem truth_rel {T : Tb} {c : Cf} (R : MP.RelM T c) {w : W} {v : V} {b : Bool} (h : truth c.m w = some b) (r : RelW T c w v) : TruV T.K v c.H b := by
  cases w with
  | non => cases r; simp only [truth] at h; cases h; rfl
  | bl k => cases r; simp only [truth] at h; cases h; rfl
  | int i => cases r; simp only [truth] at h; cases h; rfl
  | str y =>
    cases r
    simp only [truth] at h
    split at h
    · rename_i hl
      cases h
      exact ⟨hl, rfl⟩
    · cases h
  | tup xs => simp only [truth] at h; cases h; obtain ⟨p, vs, e, e2, e3⟩ := rdT_rel (w := .tup xs) rfl r; subst e; exact .inr (.inl ⟨vs, e2, by rw [e3.emp]⟩)
  | kt xs => simp only [truth] at h; cases h; obtain ⟨p, vs, e, e2, e3⟩ := rdT_rel (w := .kt xs) rfl r; subst e; exact .inr (.inl ⟨vs, e2, by rw [e3.emp]⟩)
  | lst xs => simp only [truth] at h; cases h; obtain ⟨p, vs, e, e2, e3⟩ := rdL_rel (w := .lst xs) R rfl r; subst e; exact .inl ⟨vs, e2, by rw [e3.emp]⟩
  | kl xs => simp only [truth] at h; cases h; obtain ⟨p, vs, e, e2, e3⟩ := rdL_rel (w := .kl xs) R rfl r; subst e; exact .inl ⟨vs, e2, by rw [e3.emp]⟩
  | ref i =>
    simp only [truth] at h
    split at h
    · rename_i xs hx
      cases h
      obtain ⟨p, vs, e, _, e2, e3⟩ := ref_lst R hx r
      subst e
      exact .inl ⟨vs, .inl (.inl e2), by rw [e3.emp]⟩
    · rename_i kvs hx
      cases h
      obtain ⟨a, e1, e2⟩ := (show ∃ a, _ from r)
      obtain ⟨us, q1, q2⟩ := R.obj i _ a hx e1
      subst e2
      refine .inr (.inr ⟨us, q1, ?_⟩)
      cases q2 <;> rfl
    · cases h
  | fn k => simp only [truth] at h; cases h
  | kd k => simp only [truth] at h; cases h
end MP
end

section
set_option maxHeartbeats 4000000
/-! MPBlt: built-in functions, methods of built-in types, subscripts, slices. -/
namespace MP
open PySem PySem.Spec PyProof.Rows L2

def keyW : Key → W
  | .inl i => .int i
  | .inr x => .str x
def dictOf (m : M) : W → Option O
  | .ref i => match m[i]? with
    | some (some (.dK kvs)) => some (.dK kvs)
    | some (some (.dT kvs)) => some (.dT kvs)
    | _ => none
  | _ => none

/-! ### functions -/
def lenSem (a : W) (m : M) : Res W :=
  match a with
  | .str y => if y.length ≤ sizeLine then .ok (.int y.length) m else .stuck
  | a => match rdL m a with
    | some xs => .ok (.int xs.length) m
    | none => match rdT a with
      | some xs => .ok (.int xs.length) m
      | none => match dictOf m a with
        | some (.dK kvs) => .ok (.int kvs.length) m
        | some (.dT kvs) => .ok (.int kvs.length) m
        | _ => .stuck
def listSem (frz : Bool) (a : W) (m : M) : Res W :=
  match rdL m a with
  | some xs => mkLst frz xs m
  | none => match rdT a with
    | some xs => mkLst frz xs m
    | none => match dictOf m a with
      | some (.dK kvs) => mkLst frz (kvs.map fun kv => keyW kv.1) m
      | some (.dT kvs) => mkLst frz (kvs.map fun kv => .tup (kv.1.map keyW)) m
      | _ => .stuck
def tupleSem (a : W) (m : M) : Res W :=
  match rdL m a with
  | some xs => mkTup xs m
  | none => match a with
    | .tup xs => .ok (.tup xs) m
    | .kt xs => .ok (.kt xs) m
    | _ => .stuck
def intSem (a : W) (m : M) : Res W :=
  match a with
  | .int i => .ok (.int i) m
  | .bl k => .ok (.int (if k then 1 else 0)) m
  | _ => .stuck
def strSem (a : W) (m : M) : Res W :=
  match a with
  | .int i => if i.natAbs.log2 < 1920 then .ok (.str (toString i)) m else .stuck
  | .str x => .ok (.str x) m
  | _ => .stuck
def allSem (any : Bool) (a : W) (m : M) : Res W :=
  match rdL m a with
  | some xs => match xs.mapM isBl with
    | some bs => .ok (.bl (if any then bs.any id else bs.all id)) m
    | none => .stuck
  | none => .stuck
def reprSem (a : W) (m : M) : Res W :=
  match a with
  | .int i => if i.natAbs.log2 < 1920 then .ok (.str (toString i)) m else .stuck
  | .non => .stuck
  | .bl _ => .stuck
  | .str _ => .stuck
  | a => match dat m 60 a with
    | some d => if d.showable = true ∧ d.shown.length ≤ sizeLine then .ok (.str d.shown) m else .stuck
    | none => .stuck
def absSem (a : W) (m : M) : Res W :=
  match a with
  | .int i => .ok (.int (if i < 0 then -i else i)) m
  | _ => .stuck
def isInt : W → Option Int
  | .int i => some i
  | _ => none
def sumSem (a : W) (m : M) : Res W :=
  match rdL m a with
  | some xs => match xs.mapM isInt with
    | some ns => .ok (.int ns.sum) m
    | none => .stuck
  | none => .stuck
def maxSem (a b : W) (m : M) : Res W :=
  match a, b with
  | .int i, .int j => .ok (.int (if j > i then j else i)) m
  | _, _ => .stuck
def minSem (a b : W) (m : M) : Res W :=
  match a, b with
  | .int i, .int j => .ok (.int (if j < i then j else i)) m
  | _, _ => .stuck
inductive BF where
  | len | list (frz : Bool) | tuple | int | str | all | any | repr | abs | sum | max | min
  deriving DecidableEq
def BF.py : BF → Value
  | .len => .builtin "len" | .list _ => .type "list" | .tuple => .type "tuple" | .int => .type "int" | .str => .type "str"
  | .all => .builtin "all" | .any => .builtin "any" | .repr => .builtin "repr" | .abs => .builtin "abs" | .sum => .builtin "sum" | .max => .builtin "max" | .min => .builtin "min"
def arg1 (sem : W → M → Res W) (as : List W) (m : M) : Res W :=
  match as with
  | [a] => sem a m
  | _ => .stuck
def arg2 (sem : W → W → M → Res W) (as : List W) (m : M) : Res W :=
  match as with
  | [a, b] => sem a b m
  | _ => .stuck
def bfSem (f : BF) : List W → M → Res W :=
  match f with
  | .len => arg1 lenSem
  | .list frz => arg1 (listSem frz)
  | .tuple => arg1 tupleSem
  | .int => arg1 intSem
  | .str => arg1 strSem
  | .all => arg1 (allSem false)
  | .any => arg1 (allSem true)
  | .repr => arg1 reprSem
  | .abs => arg1 absSem
  | .sum => arg1 sumSem
  | .max => arg2 maxSem
  | .min => arg2 minSem
theorem mkTup_noexc (xs : List W) (m : M) : NoExc (mkTup xs m) := by
  unfold mkTup; intro k fs m'; split <;> simp
theorem arg1_noexc {sem : W → M → Res W} (h : ∀ a m, NoExc (sem a m)) (as : List W) (m : M) : NoExc (arg1 sem as m) := by
  unfold arg1
  split
  · exact h _ _
  · intro k fs m'; simp
theorem arg2_noexc {sem : W → W → M → Res W} (h : ∀ a b m, NoExc (sem a b m)) (as : List W) (m : M) : NoExc (arg2 sem as m) := by
  unfold arg2
  split
  · exact h _ _ _
  · intro k fs m'; simp
theorem bfSem_noexc (f : BF) (as : List W) (m : M) : NoExc (bfSem f as m) := by
  cases f <;> simp only [bfSem]
  all_goals first
    | (refine arg1_noexc (fun a m k fs m' => ?_) as m; simp only [lenSem, listSem, tupleSem, intSem, strSem, allSem, reprSem, absSem, sumSem]; (repeat' split) <;> first | exact mkLst_noexc _ _ _ k fs m' | exact mkTup_noexc _ _ k fs m' | simp)
    | (refine arg2_noexc (fun a b m k fs m' => ?_) as m; simp only [maxSem, minSem]; (repeat' split) <;> simp)

section
variable {X : Cx} {T : Tb}
theorem one_arg {c : Cf} {a : W} {xs : List V} (r : RelWs T c [a] xs) : ∃ x, xs = [x] ∧ RelW T c a x := by
  obtain ⟨v, q, e1, e2, e3⟩ := (show ∃ v r, _ from r)
  cases (show q = [] from e3)
  exact ⟨v, e1, e2⟩
theorem two_args {c : Cf} {a b : W} {xs : List V} (r : RelWs T c [a, b] xs) : ∃ x y, xs = [x, y] ∧ RelW T c a x ∧ RelW T c b y := by
  obtain ⟨v, q, e1, e2, e3⟩ := (show ∃ v r, _ from r)
  obtain ⟨y, f1, f2⟩ := one_arg e3
  subst f1
  exact ⟨v, y, e1, e2, f2⟩
theorem dictOf_rel {c : Cf} (R : MP.RelM T c) {a : W} {x : V} {o : O} (h : dictOf c.m a = some o) (r : RelW T c a x) : ∃ i p, a = .ref i ∧ x = .ref p ∧ c.ρ[i]? = some p ∧ c.m[i]? = some (some o) ∧ RelO T c p o := by
  cases a with
  | ref i =>
    obtain ⟨p, e1, e2⟩ := (show ∃ a, _ from r)
    simp only [dictOf] at h
    split at h
    · rename_i kvs hx
      cases h
      exact ⟨i, p, rfl, e2, e1, hx, R.obj i _ p hx e1⟩
    · rename_i kvs hx
      cases h
      exact ⟨i, p, rfl, e2, e1, hx, R.obj i _ p hx e1⟩
    · cases h
  | _ => simp only [dictOf] at h; cases h
theorem Paired.len {α β : Type} {F : α → β → Prop} : ∀ {l : List α} {r : List β}, Paired F l r → l.length = r.length
  | _, _, .nil => rfl
  | _, _, .cons _ t => congrArg (· + 1) (Paired.len t)
theorem cr_arg1 {v : Value} {sem : W → M → Res W} (h : ∀ (pins : List (Addr × Obj)) (s : Shared) (σ : L2.St) (c : Cf) (a : W) (x : V) (us : List Value) (Q : VK), Inv X pins σ c.H s → Vals [x] us → MP.RelM T c → RelW T c a x → Wp T noX [] (RelW T) c (sem a c.m) Q →
    wpAny (model X.prog X.w) X.A (call v us) (EP X pins σ Q) X.xe s) : CallR X v (rWn T (arg1 sem)) := by
  intro pins s σ H xs us Q I r ⟨c, as, eH, R, ra, w⟩
  subst eH
  unfold arg1 at w
  split at w
  · obtain ⟨x, rfl, rx⟩ := one_arg ra
    exact h pins s σ c _ x us Q I r R rx w
  · exact w.elim
theorem cr_arg2 {v : Value} {sem : W → W → M → Res W} (h : ∀ (pins : List (Addr × Obj)) (s : Shared) (σ : L2.St) (c : Cf) (a b : W) (x y : V) (us : List Value) (Q : VK), Inv X pins σ c.H s → Vals [x, y] us → MP.RelM T c → RelW T c a x → RelW T c b y → Wp T noX [] (RelW T) c (sem a b c.m) Q →
    wpAny (model X.prog X.w) X.A (call v us) (EP X pins σ Q) X.xe s) : CallR X v (rWn T (arg2 sem)) := by
  intro pins s σ H xs us Q I r ⟨c, as, eH, R, ra, w⟩
  subst eH
  unfold arg2 at w
  split at w
  · obtain ⟨x, y, rfl, rx, ry⟩ := two_args ra
    exact h pins s σ c _ _ x y us Q I r R rx ry w
  · exact w.elim
theorem cr_len' (hK : X.K = T.K) : CallR X (.builtin "len") (rWn T (arg1 lenSem)) := by
  refine cr_arg1 fun pins s σ c a x us Q I r R rx w => ?_
  unfold lenSem at w
  split at w
  · split at w
    · rename_i hl
      cases rx
      exact call_len pins s σ _ _ us Q I r ⟨_, _, rfl, ⟨hl, rfl⟩, w c.ρ c.H _ (Ext.refl c) R rfl⟩
    · exact w.elim
  · split at w
    · rename_i ys hy
      obtain ⟨p, vs, e1, e2, e3⟩ := rdL_rel R hy rx
      subst e1
      exact call_len pins s σ _ _ us Q I r ⟨_, _, rfl, .inl ⟨vs, hK ▸ e2, rfl⟩, by rw [← e3.length]; exact w c.ρ c.H _ (Ext.refl c) R rfl⟩
    · split at w
      · rename_i ys hy
        obtain ⟨p, vs, e1, e2, e3⟩ := rdT_rel hy rx
        subst e1
        exact call_len pins s σ _ _ us Q I r ⟨_, _, rfl, .inr ⟨vs, hK ▸ e2, rfl⟩, by rw [← e3.length]; exact w c.ρ c.H _ (Ext.refl c) R rfl⟩
      · split at w
        · rename_i kvs hd
          obtain ⟨i, p, _, e, _, _, us', q1, q2⟩ := dictOf_rel R hd rx
          subst e
          exact call_lenD pins s σ _ _ us Q I r ⟨p, us', rfl, q1, by rw [← Paired.len q2]; exact w c.ρ c.H _ (Ext.refl c) R rfl⟩
        · rename_i kvs hd
          obtain ⟨i, p, _, e, _, _, us', q1, q2⟩ := dictOf_rel R hd rx
          subst e
          exact call_len_dT pins s σ _ _ us Q I r ⟨p, us', rfl, q1, by rw [← Paired.len q2]; exact w c.ρ c.H _ (Ext.refl c) R rfl⟩
        · exact w.elim
theorem keyW_rel {c : Cf} (k : Key) : RelW T c (keyW k) (kV k) := by cases k <;> rfl
theorem keysW_rel {c : Cf} : ∀ ks : List Key, RelWs T c (ks.map keyW) (ks.map kV)
  | [] => RelWs.nil
  | k :: ks => RelWs.cons (keyW_rel k) (keysW_rel ks)
theorem keysK_rel {c : Cf} : ∀ {kvs : List (Key × W)} {us : List (Key × V)}, Paired (fun p q => p.1 = q.1 ∧ RelW T c p.2 q.2) kvs us → RelWs T c (kvs.map fun kv => keyW kv.1) (us.map fun kv => kV kv.1)
  | _, _, .nil => RelWs.nil
  | p :: _, q :: _, .cons h t => RelWs.cons (show RelW T c (keyW p.1) (kV q.1) from h.1 ▸ keyW_rel p.1) (keysK_rel t)
theorem keysT_rel {c : Cf} : ∀ {kvs : List (List Key × W)} {us : List (List Key × V)} {bs : List Addr}, Paired (fun p q => p.1 = q.1 ∧ RelW T c p.2 q.2) kvs us → IsKeys c.H us bs → RelWs T c (kvs.map fun kv => W.tup (kv.1.map keyW)) (bs.map V.ref)
  | _, _, _, .nil, .nil => RelWs.nil
  | p :: _, q :: _, b :: _, .cons h t, .cons h1 h2 => RelWs.cons ⟨b, q.1.map kV, rfl, h1, h.1 ▸ keysW_rel p.1⟩ (keysT_rel t h2)
theorem cr_list' (hK : X.K = T.K) (hc : X.calm = true) (frz : Bool) : CallR X (.type "list") (rWn T (arg1 (listSem frz))) := by
  refine cr_arg1 fun pins s σ c a x us Q I r R rx w => ?_
  unfold listSem at w
  split at w
  · rename_i ys hy
    obtain ⟨p, vs, e1, e2, e3⟩ := rdL_rel R hy rx
    subst e1
    exact call_list_of pins s σ _ _ us Q I r ⟨p, vs, rfl, .inl (hK ▸ e2), (mkLst_ok R e3 w).2⟩
  · split at w
    · rename_i ys hy
      obtain ⟨p, vs, e1, e2, e3⟩ := rdT_rel hy rx
      subst e1
      exact call_list_of pins s σ _ _ us Q I r ⟨p, vs, rfl, .inr (hK ▸ e2), (mkLst_ok R e3 w).2⟩
    · split at w
      · rename_i kvs hd
        obtain ⟨i, p, _, e, _, _, us', q1, q2⟩ := dictOf_rel R hd rx
        subst e
        have e3 := keysK_rel q2
        exact call_list_dK hc pins s σ _ _ us Q I r ⟨p, us', rfl, q1, (mkLst_ok R e3 w).2⟩
      · rename_i kvs hd
        obtain ⟨i, p, _, e, _, _, us', q1, q2⟩ := dictOf_rel R hd rx
        subst e
        refine call_list_dT hc pins s σ _ _ us Q I r ⟨p, us', rfl, .inl q1, fun l bs hl hb => ?_⟩
        have e3 := keysT_rel q2 hb
        exact (mkLst_ok R e3 w).2 l hl
      · exact w.elim
theorem mkTup_ok {ws : List W} {xs : List V} {d : Cf} {Wx : WX} {σ : St} {Q : VK} (R1 : MP.RelM T d) (rx : RelWs T d ws xs) (w1 : Wp T Wx σ (RelW T) d (mkTup ws d.m) Q) : xs.length ≤ sizeLine ∧ ∀ p, d.H p = none → Q (.ref p) (upd d.H p (.tup xs)) := by
  unfold mkTup at w1
  split at w1
  · rename_i hl
    refine ⟨by rw [← rx.length]; exact hl, fun p hp => ?_⟩
    exact w1 d.ρ (upd d.H p (.tup xs)) (.ref p) (R1.extPut hp) (R1.put hp) ⟨p, xs, rfl, upd_same, rx.ext R1 (R1.extPut hp)⟩
  · exact w1.elim
theorem cr_tuple' (hK : X.K = T.K) : CallR X (.type "tuple") (rWn T (arg1 tupleSem)) := by
  refine cr_arg1 fun pins s σ c a x us Q I r R rx w => ?_
  unfold tupleSem at w
  split at w
  · rename_i ys hy
    obtain ⟨p, vs, e1, e2, e3⟩ := rdL_rel R hy rx
    subst e1
    exact call_tuple_of pins s σ _ _ us Q I r ⟨p, vs, rfl, .inl ⟨hK ▸ e2, (mkTup_ok R e3 w).2⟩⟩
  · split at w
    · rename_i ys _
      obtain ⟨p, vs, e1, e2, e3⟩ := (show ∃ a vs, _ from rx)
      subst e1
      exact call_tuple_of pins s σ _ _ us Q I r ⟨p, vs, rfl, .inr ⟨.inl (.inl e2), w c.ρ c.H _ (Ext.refl c) R ⟨p, vs, rfl, e2, e3⟩⟩⟩
    · rename_i ys _
      obtain ⟨p, vs, e1, e2, e3⟩ := (show ∃ a vs, _ from rx)
      subst e1
      exact call_tuple_of pins s σ _ _ us Q I r ⟨p, vs, rfl, .inr ⟨hK ▸ e2, w c.ρ c.H _ (Ext.refl c) R ⟨p, vs, rfl, e2, e3⟩⟩⟩
    · exact w.elim
theorem cr_int' : CallR X (.type "int") (rWn T (arg1 intSem)) := by
  refine cr_arg1 fun pins s σ c a x us Q I r R rx w => ?_
  unfold intSem at w
  split at w
  · cases rx
    exact call_int1 pins s σ _ _ us Q I r (.inl ⟨_, rfl, w c.ρ c.H _ (Ext.refl c) R rfl⟩)
  · cases rx
    exact call_int1 pins s σ _ _ us Q I r (.inr ⟨_, rfl, w c.ρ c.H _ (Ext.refl c) R rfl⟩)
  · exact w.elim
theorem cr_str' : CallR X (.type "str") (rWn T (arg1 strSem)) := by
  refine cr_arg1 fun pins s σ c a x us Q I r R rx w => ?_
  unfold strSem at w
  split at w
  · split at w
    · rename_i hl
      cases rx
      exact call_str_int pins s σ _ _ us Q I r ⟨_, rfl, hl, w c.ρ c.H _ (Ext.refl c) R rfl⟩
    · exact w.elim
  · cases rx
    exact SkE.call_str_str pins s σ _ _ us Q I r ⟨_, rfl, w c.ρ c.H _ (Ext.refl c) R rfl⟩
  · exact w.elim
theorem bls_rel {c : Cf} : ∀ {xs : List W} {vs : List V} {bs : List Bool}, xs.mapM isBl = some bs → RelWs T c xs vs → vs = bs.map V.bl
  | [], vs, bs, h, r => by
    cases (show vs = [] from r)
    cases (show some [] = some bs from h)
    rfl
  | x :: xs, vs, bs, h, r => by
    obtain ⟨v, q, e1, e2, e3⟩ := (show ∃ v r, _ from r)
    subst e1
    rw [List.mapM_cons] at h
    cases hx : isBl x with
    | none => rw [hx] at h; cases h
    | some d =>
      rw [hx] at h
      cases hs : xs.mapM isBl with
      | none => rw [hs] at h; cases h
      | some es =>
        rw [hs] at h
        cases (show some (d :: es) = some bs from h)
        have ex : x = .bl d := by cases x <;> simp only [isBl] at hx <;> first | (cases hx; rfl) | cases hx
        subst ex
        cases e2
        rw [List.map_cons, bls_rel hs e3]
theorem ints_rel {c : Cf} : ∀ {xs : List W} {vs : List V} {bs : List Int}, xs.mapM isInt = some bs → RelWs T c xs vs → vs = bs.map V.int
  | [], vs, bs, h, r => by
    cases (show vs = [] from r)
    cases (show some [] = some bs from h)
    rfl
  | x :: xs, vs, bs, h, r => by
    obtain ⟨v, q, e1, e2, e3⟩ := (show ∃ v r, _ from r)
    subst e1
    rw [List.mapM_cons] at h
    cases hx : isInt x with
    | none => rw [hx] at h; cases h
    | some d =>
      rw [hx] at h
      cases hs : xs.mapM isInt with
      | none => rw [hs] at h; cases h
      | some es =>
        rw [hs] at h
        cases (show some (d :: es) = some bs from h)
        have ex : x = .int d := by cases x <;> simp only [isInt] at hx <;> first | (cases hx; rfl) | cases hx
        subst ex
        cases e2
        rw [List.map_cons, ints_rel hs e3]
theorem cr_all' (hK : X.K = T.K) (hc : X.calm = true) : CallR X (.builtin "all") (rWn T (arg1 (allSem false))) := by
  refine cr_arg1 fun pins s σ c a x us Q I r R rx w => ?_
  unfold allSem at w
  split at w
  · rename_i ys hy
    split at w
    · rename_i bs hb
      obtain ⟨p, vs, e1, e2, e3⟩ := rdL_rel R hy rx
      subst e1
      have ev := bls_rel hb e3
      subst ev
      exact cr_all hc pins s σ _ _ us Q I r ⟨p, bs, rfl, hK ▸ e2, w c.ρ c.H _ (Ext.refl c) R rfl⟩
    · exact w.elim
  · exact w.elim
theorem cr_any' (hK : X.K = T.K) (hc : X.calm = true) : CallR X (.builtin "any") (rWn T (arg1 (allSem true))) := by
  refine cr_arg1 fun pins s σ c a x us Q I r R rx w => ?_
  unfold allSem at w
  split at w
  · rename_i ys hy
    split at w
    · rename_i bs hb
      obtain ⟨p, vs, e1, e2, e3⟩ := rdL_rel R hy rx
      subst e1
      have ev := bls_rel hb e3
      subst ev
      exact cr_any hc pins s σ _ _ us Q I r ⟨p, bs, rfl, hK ▸ e2, w c.ρ c.H _ (Ext.refl c) R rfl⟩
    · exact w.elim
  · exact w.elim
theorem cr_repr' (hK : X.K = T.K) (hg : X.A.guards = some []) (hu : X.A.units + 64 < cLine) : CallR X (.builtin "repr") (rWn T (arg1 reprSem)) := by
  refine cr_arg1 fun pins s σ c a x us Q I r R rx w => ?_
  unfold reprSem at w
  split at w
  · split at w
    · rename_i hl
      cases rx
      exact SkE.call_repr_int pins s σ _ _ us Q I r ⟨_, rfl, hl, w c.ρ c.H _ (Ext.refl c) R rfl⟩
    · exact w.elim
  · exact w.elim
  · exact w.elim
  · exact w.elim
  · rename_i n1 n2 n3 n4
    split at w
    · rename_i d hd
      split at w
      · rename_i hs
        obtain ⟨u, eu, ru⟩ := vals1 r
        subst eu
        obtain ⟨⟨as, r1⟩, p1, q1⟩ := dat_reads I hK R hd rx ru
        have z := w c.ρ c.H (.str d.shown) (Ext.refl c) R rfl
        have ex : ∃ p, u = .ref p := by
          cases x with
          | ref p => exact ⟨p, ru⟩
          | _ =>
            exfalso
            cases a with
            | non => exact n2 rfl
            | bl b => exact n3 b rfl
            | int b => exact n1 b rfl
            | str b => exact n4 b rfl
            | tup xs => obtain ⟨_, _, e, _⟩ := (show ∃ a vs, _ from rx); cases e
            | kt xs => obtain ⟨_, _, e, _⟩ := (show ∃ a vs, _ from rx); cases e
            | lst xs => obtain ⟨_, _, e, _⟩ := (show ∃ a vs, _ from rx); cases e
            | kl xs => obtain ⟨_, _, e, _⟩ := (show ∃ a vs, _ from rx); cases e
            | ref i => obtain ⟨_, _, e⟩ := (show ∃ a, _ from rx); cases e
            | fn k => cases rx
            | kd k => cases rx
        obtain ⟨p, ep⟩ := ex
        subst ep
        have nd : d.hasDict = true → sysModules ∉ as := fun h => by
          rw [noDict_of d p1] at h; cases h
        exact repr_of_reads' r1 hs.1 nd hg (by omega) (fun b o e => e) (fun h' u' tk hk => ⟨.str d.shown, c.H, I.kept hk, ⟨u', rfl⟩, z⟩) hs.2
      · exact w.elim
    · exact w.elim
where
  noDict_of : ∀ d : PyData, d.plain = true → d.hasDict = false
    | .none, _ => rfl
    | .bool _, _ => rfl
    | .int _, _ => rfl
    | .str _, _ => rfl
    | .list xs, h => noDictAll xs h
    | .tuple xs, h => noDictAll xs h
    | .dict _, h => nomatch h
  noDictAll : ∀ ds : List PyData, PyData.plainAll ds = true → PyData.hasDictAll ds = false
    | [], _ => rfl
    | d :: ds, h => by
      have h' : d.plain = true ∧ PyData.plainAll ds = true := Bool.and_eq_true_iff.mp h
      show (d.hasDict || PyData.hasDictAll ds) = false
      rw [noDict_of d h'.1, noDictAll ds h'.2]; rfl
theorem cr_abs' : CallR X (.builtin "abs") (rWn T (arg1 absSem)) := by
  refine cr_arg1 fun pins s σ c a x us Q I r R rx w => ?_
  unfold absSem at w
  split at w
  · cases rx
    exact call_abs pins s σ _ _ us Q I r ⟨_, rfl, w c.ρ c.H _ (Ext.refl c) R rfl⟩
  · exact w.elim
theorem cr_sum' (hK : X.K = T.K) (hc : X.calm = true) : CallR X (.builtin "sum") (rWn T (arg1 sumSem)) := by
  refine cr_arg1 fun pins s σ c a x us Q I r R rx w => ?_
  unfold sumSem at w
  split at w
  · rename_i ys hy
    split at w
    · rename_i bs hb
      obtain ⟨p, vs, e1, e2, e3⟩ := rdL_rel R hy rx
      subst e1
      have ev := ints_rel hb e3
      subst ev
      exact cr_sum hc pins s σ _ _ us Q I r ⟨p, bs, rfl, hK ▸ e2, w c.ρ c.H _ (Ext.refl c) R rfl⟩
    · exact w.elim
  · exact w.elim
theorem cr_max' (hc : X.calm = true) : CallR X (.builtin "max") (rWn T (arg2 maxSem)) := by
  refine cr_arg2 fun pins s σ c a b x y us Q I r R rx ry w => ?_
  unfold maxSem at w
  split at w
  · cases rx; cases ry
    exact call_max2 hc pins s σ _ _ us Q I r ⟨_, _, rfl, w c.ρ c.H _ (Ext.refl c) R rfl⟩
  · exact w.elim
theorem cr_min' (hc : X.calm = true) : CallR X (.builtin "min") (rWn T (arg2 minSem)) := by
  refine cr_arg2 fun pins s σ c a b x y us Q I r R rx ry w => ?_
  unfold minSem at w
  split at w
  · cases rx; cases ry
    exact call_min2 hc pins s σ _ _ us Q I r ⟨_, _, rfl, w c.ρ c.H _ (Ext.refl c) R rfl⟩
  · exact w.elim
theorem cr_bf (hK : X.K = T.K) (hc : X.calm = true) (hg : X.A.guards = some []) (hu : X.A.units + 64 < cLine) (f : BF) : CallR X f.py (rWn T (bfSem f)) := by
  cases f with
  | len => exact cr_len' hK
  | list frz => exact cr_list' hK hc frz
  | tuple => exact cr_tuple' hK
  | int => exact cr_int'
  | str => exact cr_str'
  | all => exact cr_all' hK hc
  | any => exact cr_any' hK hc
  | repr => exact cr_repr' hK hg hu
  | abs => exact cr_abs'
  | sum => exact cr_sum' hK hc
  | max => exact cr_max' hc
  | min => exact cr_min' hc
end
end MP
end

section
set_option maxHeartbeats 4000000
/-! MPMet: methods of built-in types, subscripts, slices, attributes. -/
namespace MP
open PySem PySem.Spec PyProof.Rows L2

def setO (m : M) (i : Nat) (o : O) : M := m.set i (some o)
/-! ### methods -/
def appendSem (x : W) (as : List W) (m : M) : Res W :=
  match x, as with
  | .ref i, [y] => match m[i]? with
    | some (some (.lst xs)) => if xs.length < sizeLine then .ok .non (setO m i (.lst (xs ++ [y]))) else .stuck
    | _ => .stuck
  | _, _ => .stuck
def extendSem (x : W) (as : List W) (m : M) : Res W :=
  match x, as with
  | .ref i, [y] => match m[i]?, lstOf m y with
    | some (some (.lst xs)), some ys => if xs.length + ys.length ≤ sizeLine then .ok .non (setO m i (.lst (xs ++ ys))) else .stuck
    | _, _ => .stuck
  | _, _ => .stuck
def popSem (x : W) (as : List W) (m : M) : Res W :=
  match x, as with
  | .ref i, [] => match m[i]? with
    | some (some (.lst xs)) => match xs[xs.length - 1]? with
      | some y => .ok y (setO m i (.lst xs.dropLast))
      | none => .stuck
    | _ => .stuck
  | .ref i, [.int k] => match m[i]? with
    | some (some (.lst xs)) => if -(2 ^ 63) ≤ k ∧ k < 2 ^ 63 then match seqIndex? k xs.length with
        | some j => match xs[j]? with
          | some y => .ok y (setO m i (.lst (xs.eraseIdx j)))
          | none => .stuck
        | none => .stuck
      else .stuck
    | _ => .stuck
  | _, _ => .stuck
def getSem (x : W) (as : List W) (m : M) : Res W :=
  match x with
  | .ref i => match m[i]? with
    | some (some o) => match as with
      | [k] => match dictGet o k with
        | some r => .ok (r.getD .non) m
        | none => .stuck
      | [k, d] => match dictGet o k with
        | some r => .ok (r.getD d) m
        | none => .stuck
      | _ => .stuck
    | _ => .stuck
  | _ => .stuck
def isStr : W → Option Str
  | .str x => some x
  | _ => none
def joinSem (x : W) (as : List W) (m : M) : Res W :=
  match x, as with
  | .str a, [y] => match (match rdL m y with | some xs => some xs | none => rdT y) with
    | some xs => match xs.mapM isStr with
      | some ys => if (ys.map (·.length)).sum + ys.length * a.length ≤ 16777216 then .ok (.str (Txt.join a ys)) m else .stuck
      | none => .stuck
    | none => .stuck
  | _, _ => .stuck
def splitSem (frz : Bool) (x : W) (as : List W) (m : M) : Res W :=
  match x, as with
  | .str a, [.str b] => if (b.length == 0) = false ∧ a.length + 2 ≤ sizeLine then mkLst frz ((Txt.split a b).map .str) m else .stuck
  | _, _ => .stuck
inductive BM where
  | append | extend | pop | get | join | split (frz : Bool)
  deriving DecidableEq
def bmSem : BM → W → List W → M → Res W
  | .append => appendSem
  | .extend => extendSem
  | .pop => popSem
  | .get => getSem
  | .join => joinSem
  | .split frz => splitSem frz
def BM.ty : BM → String
  | .append => "list" | .extend => "list" | .pop => "list" | .get => "dict" | .join => "str" | .split _ => "str"
def BM.id : BM → String
  | .append => "list.append" | .extend => "list.extend" | .pop => "list.pop" | .get => "dict.get" | .join => "str.join" | .split _ => "str.split"
/-- is the receiver of that type -/
def tyOk (t : String) (x : W) (m : M) : Bool :=
  match x with
  | .str _ => t == "str"
  | x => (t == "list" && (rdL m x).isSome) || (t == "dict" && (dictOf m x).isSome)
theorem bmSem_noexc (b : BM) (x : W) (as : List W) (m : M) : NoExc (bmSem b x as m) := by
  intro k fs m'
  cases b <;> simp only [bmSem, appendSem, extendSem, popSem, getSem, joinSem, splitSem]
  all_goals (repeat' split) <;> first | exact mkLst_noexc _ _ _ k fs m' | simp
def rMw (T : Tb) (sem : W → List W → M → Res W) : V → List V → Hp → VK → Prop := fun x xs H Q => ∃ (c : Cf) (a : W) (as : List W), c.H = H ∧ MP.RelM T c ∧ RelW T c a x ∧ RelWs T c as xs ∧ Wp T noX [] (RelW T) c (sem a as c.m) Q
def meth (t : String) (ro : Sl → M → Res W) (rs : Sl → M → Res (List W)) (sem : W → List W → M → Res W) : Sl → M → Res W := fun σ m => (ro σ m).bind fun x m1 => if tyOk t x m1 = true then (rs σ m1).bind fun xs m2 => sem x xs m2 else .stuck
section
variable {X : Cx} {T : Tb} {Wx : WX}
theorem tyOk_rel {c : Cf} (R : MP.RelM T c) {t : String} {w : W} {v : V} (h : tyOk t w c.m = true) (r : RelW T c w v) : tyV T.K t v c.H := by
  unfold tyOk at h
  split at h
  · cases r
    exact beq_iff_eq.mp h
  · rcases Bool.or_eq_true_iff.mp h with h | h
    · obtain ⟨h1, h2⟩ := Bool.and_eq_true_iff.mp h
      obtain ⟨xs, h3⟩ := Option.isSome_iff_exists.mp h2
      obtain ⟨a, vs, e1, e2, _⟩ := rdL_rel R h3 r
      subst e1
      exact .inl ⟨beq_iff_eq.mp h1, vs, e2⟩
    · obtain ⟨h1, h2⟩ := Bool.and_eq_true_iff.mp h
      obtain ⟨o, h3⟩ := Option.isSome_iff_exists.mp h2
      obtain ⟨i, p, e0, e1, _, _, q⟩ := dictOf_rel R h3 r
      subst e1
      refine .inr (.inr (.inl ⟨beq_iff_eq.mp h1, ?_⟩))
      cases o with
      | dK kvs => obtain ⟨us, q1, _⟩ := q; exact .inl ⟨us, q1⟩
      | dT kvs => obtain ⟨us, q1, _⟩ := q; exact .inr ⟨us, q1⟩
      | lst xs => subst e0; simp only [dictOf] at h3; split at h3 <;> cases h3
      | ins k fs => subst e0; simp only [dictOf] at h3; split at h3 <;> cases h3
theorem meth_tBM {t : String} {ro : Sl → M → Res W} {rs : Sl → M → Res (List W)} {sem : W → List W → M → Res W} (hn : ∀ x xs m, NoExc (sem x xs m)) (σ : St) (H : Hp) (Q : VK) (h : tE T Wx (meth t ro rs sem) σ H Q) :
    tBM T.K t (rMw T sem) (tE T Wx ro) (tEs T Wx rs) σ H Q := by
  obtain ⟨c, σw, eH, R, S, w⟩ := h
  refine ⟨c, σw, eH, R, S, (Wp.bind (R := RelW T) w).mono ?_⟩
  rintro x H1 ⟨d, wx, e1, ext, R1, rx, w1⟩
  split at w1
  · rename_i ht
    refine ⟨e1 ▸ tyOk_rel R1 ht rx, d, σw, e1, R1, S.ext R ext, (Wp.bind (R := RelWs T) w1).mono ?_⟩
    rintro xs H2 ⟨d2, ws, e2, ext2, R2, rs2, w2⟩
    exact ⟨d2, wx, ws, e2, R2, rx.ext R1 ext2, rs2, w2.noX_of (hn _ _ _)⟩
  · exact w1.elim
theorem meth_tBM0 {t : String} {ro : Sl → M → Res W} {sem : W → List W → M → Res W} (hn : ∀ x xs m, NoExc (sem x xs m)) (σ : St) (H : Hp) (Q : VK) (h : tE T Wx (meth t ro eNil sem) σ H Q) :
    tBM0 T.K t (rMw T sem) (tE T Wx ro) σ H Q := by
  obtain ⟨c, σw, eH, R, S, w⟩ := h
  refine ⟨c, σw, eH, R, S, (Wp.bind (R := RelW T) w).mono ?_⟩
  rintro x H1 ⟨d, wx, e1, ext, R1, rx, w1⟩
  split at w1
  · rename_i ht
    exact ⟨e1 ▸ tyOk_rel R1 ht rx, d, wx, [], e1, R1, rx, RelWs.nil, w1.noX_of (hn _ _ _)⟩
  · exact w1.elim
/-- a list thing changed -/
theorem chg_lst {c : Cf} (R : MP.RelM T c) {i : Nat} {a : Addr} {xs ws : List W} {vs : List V} {Q : VK} {y : W} {v : V} (h : c.m[i]? = some (some (.lst xs))) (ea : c.ρ[i]? = some a) (r : RelWs T c ws vs) (ry : RelW T c y v)
    (w : Wp T noX [] (RelW T) c (.ok y (setO c.m i (.lst ws))) Q) : Q v (upd c.H a (.lst vs)) := by
  have x := RelM.extChg (u := .lst vs) (o := .lst ws) h ea
  exact w c.ρ (upd c.H a (.lst vs)) v x (R.chg h ea ⟨vs, upd_same, r.ext R x⟩) (ry.ext R x)
theorem mt_append' : MtR X "list.append" (rMw T appendSem) := by
  intro pins s σ H x xs v us Q I rx rxs ⟨c, a, as, eH, R, ra, ras, w⟩
  subst eH
  unfold appendSem at w
  split at w
  · split at w
    · rename_i i y ys hy
      split at w
      · rename_i hl
        obtain ⟨p, vs, e1, e2, e3, e4⟩ := ref_lst R hy ra
        obtain ⟨z, f1, f2⟩ := one_arg ras
        subst e1 f1
        exact mt_append pins s σ _ _ _ v us Q I rx rxs ⟨p, vs, z, rfl, rfl, e3, by rw [← e4.length]; exact hl, chg_lst R hy e2 (e4.append (RelWs.cons f2 RelWs.nil)) (show RelW T c .non .non from rfl) w⟩
      · exact w.elim
    · exact w.elim
  · exact w.elim
theorem mt_extend' : MtR X "list.extend" (rMw T extendSem) := by
  intro pins s σ H x xs v us Q I rx rxs ⟨c, a, as, eH, R, ra, ras, w⟩
  subst eH
  unfold extendSem at w
  split at w
  · split at w
    · rename_i i y _ _ ys zs hy hz
      split at w
      · rename_i hl
        obtain ⟨p, vs, e1, e2, e3, e4⟩ := ref_lst R hy ra
        obtain ⟨z, f1, f2⟩ := one_arg ras
        obtain ⟨b, bs, g1, g2, g3⟩ := lstOf_rel R hz f2
        subst e1 f1 g1
        exact mt_extend pins s σ _ _ _ v us Q I rx rxs ⟨p, b, vs, bs, rfl, rfl, e3, g2, by rw [← e4.length, ← g3.length]; exact hl, chg_lst R hy e2 (e4.append g3) (show RelW T c .non .non from rfl) w⟩
      · exact w.elim
    · exact w.elim
  · exact w.elim
theorem RelWs.dropLast {c : Cf} : ∀ {xs : List W} {vs : List V}, RelWs T c xs vs → RelWs T c xs.dropLast vs.dropLast := fun {xs vs} h => by
  rw [List.dropLast_eq_take, List.dropLast_eq_take, h.length]
  exact h.take _
theorem RelWs.erase {c : Cf} : ∀ (j : Nat) {xs : List W} {vs : List V}, RelWs T c xs vs → RelWs T c (xs.eraseIdx j) (vs.eraseIdx j)
  | _, [], _, a => by cases (show _ = [] from a); rfl
  | 0, y :: xs, _, a => by
    obtain ⟨u, q, e1, e2, e3⟩ := (show ∃ v r, _ from a)
    subst e1
    exact e3
  | n + 1, y :: xs, _, a => by
    obtain ⟨u, q, e1, e2, e3⟩ := (show ∃ v r, _ from a)
    subst e1
    exact ⟨u, _, rfl, e2, RelWs.erase n e3⟩
theorem mt_pop' : MtR X "list.pop" (rMw T popSem) := by
  intro pins s σ H x xs v us Q I rx rxs ⟨c, a, as, eH, R, ra, ras, w⟩
  subst eH
  unfold popSem at w
  split at w
  · split at w
    · rename_i i ys hy
      split at w
      · rename_i y hz
        obtain ⟨p, vs, e1, e2, e3, e4⟩ := ref_lst R hy ra
        cases (show xs = [] from ras)
        subst e1
        obtain ⟨z, hz1, hz2⟩ := e4.get hz
        exact mt_pop pins s σ _ _ _ v us Q I rx rxs ⟨p, vs, z, rfl, rfl, e3, by rw [← e4.length]; exact hz1, chg_lst R hy e2 e4.dropLast hz2 w⟩
      · exact w.elim
    · exact w.elim
  · split at w
    · rename_i i k _ ys hy
      split at w
      · rename_i hb
        split at w
        · rename_i j hj
          split at w
          · rename_i y hz
            obtain ⟨p, vs, e1, e2, e3, e4⟩ := ref_lst R hy ra
            obtain ⟨z', f1, f2⟩ := one_arg ras
            cases f2
            subst e1 f1
            obtain ⟨z, hz1, hz2⟩ := e4.get hz
            exact mt_popAt pins s σ _ _ _ v us Q I rx rxs ⟨p, vs, k, j, z, rfl, rfl, e3, hb.1, hb.2, by rw [← e4.length]; exact hj, hz1, chg_lst R hy e2 (e4.erase j) hz2 w⟩
          · exact w.elim
        · exact w.elim
      · exact w.elim
    · exact w.elim
  · exact w.elim
theorem getD_rel {c : Cf} {r : Option W} {q : Option V} {d : W} {dv : V} (h : (r = none ∧ q = none) ∨ ∃ w v, r = some w ∧ q = some v ∧ RelW T c w v) (hd : RelW T c d dv) : RelW T c (r.getD d) (q.getD dv) := by
  rcases h with ⟨a, b⟩ | ⟨w, v, a, b, e⟩
  · rw [a, b]; exact hd
  · rw [a, b]; exact e
theorem mt_get' (hu : X.A.units + 64 < cLine) : MtR X "dict.get" (rMw T getSem) := by
  intro pins s σ H x xs v us Q I rx rxs ⟨c, a, as, eH, R, ra, ras, w⟩
  subst eH
  unfold getSem at w
  split at w
  · split at w
    · rename_i i o ho
      split at w
      · rename_i k
        split at w
        · rename_i r hr
          obtain ⟨y, f1, f2⟩ := one_arg ras
          subst f1
          obtain ⟨p, q, e1, _, g, rr⟩ := dictGet_rel R ho hr ra f2
          subst e1
          cases (show v = Value.ref p from rx)
          obtain ⟨u, eu, ru⟩ := vals1 rxs
          subst eu
          have z := getD_rel rr (show RelW T c .non .non from rfl)
          exact d_get1 (by omega) I g ru fun w' s' I' rw' => ⟨_, _, I', rw', w c.ρ c.H _ (Ext.refl c) R z⟩
        · exact w.elim
      · rename_i k d
        split at w
        · rename_i r hr
          obtain ⟨y, y2, f1, f2, f3⟩ := two_args ras
          subst f1
          obtain ⟨p, q, e1, _, g, rr⟩ := dictGet_rel R ho hr ra f2
          subst e1
          cases (show v = Value.ref p from rx)
          obtain ⟨u, u2, eu, ru, ru2⟩ := vals2 rxs
          subst eu
          have z := getD_rel rr f3
          exact d_get2 (by omega) I g ru ru2 fun w' s' I' rw' => ⟨_, _, I', rw', w c.ρ c.H _ (Ext.refl c) R z⟩
        · exact w.elim
      · exact w.elim
    · exact w.elim
  · exact w.elim
theorem strs_rel {c : Cf} : ∀ {xs : List W} {vs : List V} {bs : List Str}, xs.mapM isStr = some bs → RelWs T c xs vs → vs = bs.map V.str
  | [], vs, bs, h, r => by
    cases (show vs = [] from r)
    cases (show some [] = some bs from h)
    rfl
  | x :: xs, vs, bs, h, r => by
    obtain ⟨v, q, e1, e2, e3⟩ := (show ∃ v r, _ from r)
    subst e1
    rw [List.mapM_cons] at h
    cases hx : isStr x with
    | none => rw [hx] at h; cases h
    | some d =>
      rw [hx] at h
      cases hs : xs.mapM isStr with
      | none => rw [hs] at h; cases h
      | some es =>
        rw [hs] at h
        cases (show some (d :: es) = some bs from h)
        have ex : x = .str d := by cases x <;> simp only [isStr] at hx <;> first | (cases hx; rfl) | cases hx
        subst ex
        cases e2
        rw [List.map_cons, strs_rel hs e3]
theorem mt_join' (hK : X.K = T.K) : MtR X "str.join" (rMw T joinSem) := by
  intro pins s σ H x xs v us Q I rx rxs ⟨c, a, as, eH, R, ra, ras, w⟩
  subst eH
  unfold joinSem at w
  split at w
  · rename_i b y
    split at w
    · rename_i ys hy
      split at w
      · rename_i zs hz
        split at w
        · rename_i hl
          obtain ⟨y', f1, f2⟩ := one_arg ras
          subst f1
          cases ra
          split at hy
          · rename_i ys' hq
            cases hy
            obtain ⟨p, vs, e1, e2, e3⟩ := rdL_rel R hq f2
            subst e1
            have ev := strs_rel hz e3
            subst ev
            exact mt_join pins s σ _ _ _ v us Q I rx rxs ⟨b, p, zs, rfl, rfl, .inl (hK ▸ e2), hl, w c.ρ c.H _ (Ext.refl c) R rfl⟩
          · obtain ⟨p, vs, e1, e2, e3⟩ := rdT_rel hy f2
            subst e1
            have ev := strs_rel hz e3
            subst ev
            exact mt_join pins s σ _ _ _ v us Q I rx rxs ⟨b, p, zs, rfl, rfl, .inr (hK ▸ e2), hl, w c.ρ c.H _ (Ext.refl c) R rfl⟩
        · exact w.elim
      · exact w.elim
    · exact w.elim
  · exact w.elim
theorem strsW_rel {c : Cf} : ∀ ys : List Str, RelWs T c (ys.map W.str) (ys.map V.str)
  | [] => RelWs.nil
  | y :: ys => RelWs.cons rfl (strsW_rel ys)
theorem mt_split' (frz : Bool) : MtR X "str.split" (rMw T (splitSem frz)) := by
  intro pins s σ H x xs v us Q I rx rxs ⟨c, a, as, eH, R, ra, ras, w⟩
  subst eH
  unfold splitSem at w
  split at w
  · rename_i b y
    split at w
    · rename_i hl
      obtain ⟨y', f1, f2⟩ := one_arg ras
      cases f2
      subst f1
      cases ra
      exact mt_split pins s σ _ _ _ v us Q I rx rxs ⟨b, y, rfl, rfl, hl.1, hl.2, (mkLst_ok R (strsW_rel _) w).2⟩
    · exact w.elim
  · exact w.elim
theorem mt_bm (hK : X.K = T.K) (hu : X.A.units + 64 < cLine) (b : BM) : MtR X b.id (rMw T (bmSem b)) := by
  cases b with
  | append => exact mt_append'
  | extend => exact mt_extend'
  | pop => exact mt_pop'
  | get => exact mt_get' hu
  | join => exact mt_join' hK
  | split frz => exact mt_split' frz
end
end MP
end

section
set_option maxHeartbeats 4000000
/-! MPSub: subscripts, slices, attributes, isinstance, stores. -/
namespace MP
open PySem PySem.Spec PyProof.Rows L2

/-! ### subscripts -/
def seqOf (m : M) (a : W) : Option (List W) := match rdL m a with
  | some xs => some xs
  | none => rdT a
def ixSem (a b : W) (m : M) : Res W :=
  match a, b with
  | .str z, .int i => if z.length ≤ sizeLine then match atI z.cps.toList i with
      | some c => .ok (.str ⟨#[c]⟩) m
      | none => .stuck
    else .stuck
  | a, b => match seqOf m a with
    | some xs => match b with
      | .int i => match atI xs i with
        | some w => .ok w m
        | none => .stuck
      | _ => .stuck
    | none => match a with
      | .ref i => match m[i]? with
        | some (some o) => match dictGet o b with
          | some (some w) => .ok w m
          | _ => .stuck
        | _ => .stuck
      | _ => .stuck
def cutL {α : Type} (xs : List α) (lo hi : Option Int) : List α := (xs.drop (HT.sIx xs.length 0 lo)).take (HT.sIx xs.length xs.length hi - HT.sIx xs.length 0 lo)
def slSem (frz : Bool) (a : W) (lo hi : Option Int) (m : M) : Res W :=
  match a with
  | .str z => if z.length ≤ sizeLine then .ok (.str (cutS z lo hi)) m else .stuck
  | .tup xs => .ok (.tup (cutL xs lo hi)) m
  | a => match rdL m a with
    | some xs => mkLst frz (cutL xs lo hi) m
    | none => .stuck
theorem ixSem_noexc (a b : W) (m : M) : NoExc (ixSem a b m) := by
  intro k fs m'
  simp only [ixSem]
  (repeat' split) <;> simp
theorem slSem_noexc (frz : Bool) (a : W) (lo hi : Option Int) (m : M) : NoExc (slSem frz a lo hi m) := by
  intro k fs m'
  simp only [slSem]
  (repeat' split) <;> first | exact mkLst_noexc _ _ _ k fs m' | simp
section
variable {X : Cx} {T : Tb} {Wx : WX}
theorem atI_rel {c : Cf} {xs : List W} {vs : List V} {i : Int} {w : W} (r : RelWs T c xs vs) (h : atI xs i = some w) : ∃ v, atI vs i = some v ∧ RelW T c w v := by
  unfold atI at h ⊢
  rw [← r.length]
  cases hj : ixN xs.length i with
  | none => rw [hj] at h; cases h
  | some j =>
    rw [hj] at h
    exact r.get h
theorem seqOf_rel {c : Cf} (R : MP.RelM T c) {a : W} {x : V} {xs : List W} (h : seqOf c.m a = some xs) (r : RelW T c a x) : ∃ p vs, x = .ref p ∧ (SqL T.K c.H p vs ∨ SqT T.K c.H p vs) ∧ RelWs T c xs vs := by
  unfold seqOf at h
  split at h
  · rename_i ys hy
    cases h
    obtain ⟨p, vs, e1, e2, e3⟩ := rdL_rel R hy r
    exact ⟨p, vs, e1, .inl e2, e3⟩
  · obtain ⟨p, vs, e1, e2, e3⟩ := rdT_rel h r
    exact ⟨p, vs, e1, .inr e2, e3⟩
theorem ix_any (hK : X.K = T.K) (hu : X.A.units + 64 < cLine) : IxR X (rW2 T ixSem) := by
  intro value slice pins s σ H x y v u Q I rx ry ⟨c, a, b, eH, R, ra, rb, w⟩ hs
  subst eH
  unfold ixSem at w
  split at w
  · split at w
    · rename_i hl
      split at w
      · rename_i cc hc
        cases ra; cases rb
        exact ix_str value slice pins s σ _ _ _ v u Q I rx ry ⟨_, _, cc, rfl, rfl, hl, hc, w c.ρ c.H _ (Ext.refl c) R rfl⟩ hs
      · exact w.elim
    · exact w.elim
  · split at w
    · rename_i xs hx
      split at w
      · split at w
        · rename_i z hz
          obtain ⟨p, vs, e1, e2, e3⟩ := seqOf_rel R hx ra
          cases rb
          subst e1
          obtain ⟨z', g1, g2⟩ := atI_rel e3 hz
          have q := w c.ρ c.H _ (Ext.refl c) R g2
          rcases e2 with e2 | e2
          · exact ix_list value slice pins s σ _ _ _ v u Q I rx ry ⟨p, vs, _, z', rfl, rfl, hK ▸ e2, g1, q⟩ hs
          · exact ix_tup value slice pins s σ _ _ _ v u Q I rx ry ⟨p, vs, _, z', rfl, rfl, hK ▸ e2, g1, q⟩ hs
        · exact w.elim
      · exact w.elim
    · split at w
      · split at w
        · rename_i o ho
          split at w
          · rename_i z hz
            obtain ⟨p, q, e1, _, g, rr⟩ := dictGet_rel R ho hz ra rb
            rcases rr with ⟨z1, _⟩ | ⟨w', v', z1, z2, z3⟩
            · cases z1
            · cases z1
              subst e1 z2
              cases (show v = Value.ref p from rx)
              exact tail_any (dict_typeIs I g) PySem.F.slot_dict_getitem.lookup (d_getItem (by omega) I g ry fun w2 s3 I3 rw2 => ⟨v', _, I3, rw2, w c.ρ c.H _ (Ext.refl c) R z3⟩) hs
          · exact w.elim
        · exact w.elim
      · exact w.elim
theorem cut_rel {c : Cf} {xs : List W} {vs : List V} (r : RelWs T c xs vs) (lo hi : Option Int) : RelWs T c (cutL xs lo hi) (cutV vs lo hi) := by
  unfold cutL cutV
  rw [r.length]
  exact (r.drop _).take _
def rSlW (T : Tb) (frz : Bool) : V → Option Int → Option Int → Hp → VK → Prop := fun x lo hi H Q => ∃ (c : Cf) (a : W), c.H = H ∧ MP.RelM T c ∧ RelW T c a x ∧ Wp T noX [] (RelW T) c (slSem frz a lo hi c.m) Q
theorem sl_any (hK : X.K = T.K) (frz : Bool) : SlR X (rSlW T frz) := by
  intro pins s σ H x v vl vu lo hi sl Q I rx hs pl pu ⟨c, a, eH, R, ra, w⟩
  subst eH
  unfold slSem at w
  split at w
  · split at w
    · rename_i hl
      cases ra
      exact sl_str pins s σ _ _ v vl vu lo hi sl Q I rx hs pl pu ⟨_, rfl, hl, w c.ρ c.H _ (Ext.refl c) R rfl⟩
    · exact w.elim
  · rename_i xs
    obtain ⟨p, vs, e1, e2, e3⟩ := (show ∃ a vs, _ from ra)
    subst e1
    refine sl_tupA pins s σ _ _ v vl vu lo hi sl Q I rx hs pl pu ⟨p, vs, rfl, .inl (.inl e2), fun hw => ?_, fun hw n hn => ?_⟩
    · have e : cutL xs lo hi = xs := by
        unfold cutL
        rw [e3.length, hw.1, hw.2, List.drop_zero, Nat.sub_zero, ← e3.length]
        exact List.take_length
      rw [e] at w
      exact w c.ρ c.H _ (Ext.refl c) R ⟨p, vs, rfl, e2, e3⟩
    · exact w c.ρ (upd c.H n (.tup (cutV vs lo hi))) (.ref n) (R.extPut hn) (R.put hn) ⟨n, _, rfl, upd_same, (cut_rel e3 lo hi).ext R (R.extPut hn)⟩
  · split at w
    · rename_i xs hx
      obtain ⟨p, vs, e1, e2, e3⟩ := rdL_rel R hx ra
      subst e1
      exact sl_list pins s σ _ _ v vl vu lo hi sl Q I rx hs pl pu ⟨p, vs, rfl, hK ▸ e2, (mkLst_ok R (cut_rel e3 lo hi) w).2⟩
    · exact w.elim
/-- a slice's part -/
def part (r : Option (Sl → M → Res W)) : Sl → M → Res (Option Int) := fun σ m =>
  match r with
  | none => .ok none m
  | some r => (r σ m).bind fun w m1 => match w with
    | .int i => .ok (some i) m1
    | _ => .stuck
def tPt (T : Tb) (Wx : WX) (r : Sl → M → Res (Option Int)) : TO := fun σ H Q => ∃ (c : Cf) (σw : Sl), c.H = H ∧ MP.RelM T c ∧ RelS T c σw σ ∧ Wp T Wx σ (fun _ a b => a = b) c (r σw c.m) Q
theorem part_none (σ : St) (H : Hp) (Q : Option Int → Hp → Prop) (h : tPt T Wx (part none) σ H Q) : tNoPart σ H Q := by
  obtain ⟨c, σw, eH, R, S, w⟩ := h
  exact eH ▸ w c.ρ c.H none (Ext.refl c) R rfl
theorem part_some {r : Sl → M → Res W} (σ : St) (H : Hp) (Q : Option Int → Hp → Prop) (h : tPt T Wx (part (some r)) σ H Q) : tPart (tE T Wx r) σ H Q := by
  obtain ⟨c, σw, eH, R, S, w⟩ := h
  refine ⟨c, σw, eH, R, S, (Wp.bind (R := RelW T) w).mono ?_⟩
  rintro x H1 ⟨d, wx, e1, ext, R1, rx, w1⟩
  split at w1
  · cases rx
    exact ⟨_, rfl, e1 ▸ w1 d.ρ d.H _ (Ext.refl d) R1 rfl⟩
  · exact w1.elim
def eSl (frz : Bool) (ra : Sl → M → Res W) (rl rh : Sl → M → Res (Option Int)) : Sl → M → Res W := fun σ m => (ra σ m).bind fun x m1 => (rl σ m1).bind fun l m2 => (rh σ m2).bind fun h m3 => slSem frz x l h m3
theorem tE_sl {frz : Bool} {ra : Sl → M → Res W} {rl rh : Sl → M → Res (Option Int)} (σ : St) (H : Hp) (Q : VK) (h : tE T Wx (eSl frz ra rl rh) σ H Q) : tSl (rSlW T frz) (tE T Wx ra) (tPt T Wx rl) (tPt T Wx rh) σ H Q := by
  obtain ⟨c, σw, eH, R, S, w⟩ := h
  refine ⟨c, σw, eH, R, S, (Wp.bind (R := RelW T) w).mono ?_⟩
  rintro x H1 ⟨d, wx, e1, ext, R1, rx, w1⟩
  refine ⟨d, σw, e1, R1, S.ext R ext, (Wp.bind (R := fun _ a b => a = b) w1).mono ?_⟩
  rintro l H2 ⟨d2, wl, e2, ext2, R2, rl', w2⟩
  subst rl'
  refine ⟨d2, σw, e2, R2, (S.ext R ext).ext R1 ext2, (Wp.bind (R := fun _ a b => a = b) w2).mono ?_⟩
  rintro u H3 ⟨d3, wu, e3, ext3, R3, ru, w3⟩
  subst ru
  exact ⟨d3, wx, e3, R3, (rx.ext R1 ext2).ext R2 ext3, w3.noX_of (slSem_noexc _ _ _ _ _)⟩
end

/-! ### the static tables of a text -/
inductive Ty where
  | non | bl | int | str | lst | tup | dic | own (k : Nat)
  deriving DecidableEq
def Ty.val (T : Tb) : Ty → Value
  | .non => .type "NoneType" | .bl => .type "bool" | .int => .type "int" | .str => .type "str" | .lst => .type "list" | .tup => .type "tuple" | .dic => .type "dict"
  | .own k => .ref (T.ca k)
def tyW (m : M) : W → Option Ty
  | .non => some .non
  | .bl _ => some .bl
  | .int _ => some .int
  | .str _ => some .str
  | .tup _ => some .tup
  | .lst _ => some .lst
  | .kl _ => some .lst
  | .ref i => match m[i]? with
    | some (some (.lst _)) => some .lst
    | some (some (.dK _)) => some .dic
    | some (some (.dT _)) => some .dic
    | some (some (.ins k _)) => some (.own k)
    | _ => none
  | _ => none
/-- what is known of the classes: isa, the fields that may be read and stored -/
structure Cn where
  isa : Ty → Ty → Option Bool
  fields : Nat → List Nat
structure CnOk (g : Cn) (T : Tb) : Prop where
  isa : ∀ t u b, g.isa t u = some b → PySem.W.kitOne T.K (t.val T) (u.val T) = some b
  cls : ∀ k f, f ∈ g.fields k → Cls T.K (T.ca k)
  noat : ∀ k f x, f ∈ g.fields k → T.names[f]? = some x → NoAttr T.K (T.ca k) x
  ins : ∀ t k b, g.isa (.own k) t = some b → Cls T.K (T.ca k) ∧ PySem.W.findIn T.K (.ref (T.ca k)) "__class__" = some (some (.builtin "object.__class__")) ∧
    PySem.W.specialIn T.K (.builtin "object.__class__") "__get__" = some (some (.builtin "getset_descriptor.__get__")) ∧ PySem.W.takesIn T.K (.builtin "object.__class__") = some true ∧ PySem.W.mroIn T.K (T.ca k) (.type "object") = some true
def isaSem (g : Cn) (u : Ty) (a : W) (m : M) : Res W :=
  match tyW m a with
  | some t => match g.isa t u with
    | some b => .ok (.bl b) m
    | none => .stuck
  | none => .stuck
section
variable {X : Cx} {T : Tb} {Wx : WX} {g : Cn}
theorem tyW_rel {c : Cf} (R : MP.RelM T c) {a : W} {x : V} {t : Ty} (h : tyW c.m a = some t) (r : RelW T c a x) (hi : ∀ k, t = .own k → Cls T.K (T.ca k) ∧ PySem.W.findIn T.K (.ref (T.ca k)) "__class__" = some (some (.builtin "object.__class__")) ∧
    PySem.W.specialIn T.K (.builtin "object.__class__") "__get__" = some (some (.builtin "getset_descriptor.__get__")) ∧ PySem.W.takesIn T.K (.builtin "object.__class__") = some true ∧ PySem.W.mroIn T.K (T.ca k) (.type "object") = some true) :
    TyX T.K c.H x (t.val T) := by
  refine .base ?_
  cases a with
  | non => cases h; cases r; exact .non
  | bl b => cases h; cases r; exact .bl b
  | int b => cases h; cases r; exact .int b
  | str b => cases h; cases r; exact .str b
  | tup xs => cases h; obtain ⟨p, vs, e1, e2, _⟩ := (show ∃ a vs, _ from r); subst e1; exact .tup e2
  | lst xs => cases h; obtain ⟨p, vs, e1, e2, _⟩ := (show ∃ a vs, _ from r); subst e1; exact .lst e2
  | kl xs => cases h; obtain ⟨p, vs, e1, ⟨o, e2⟩, _⟩ := (show ∃ a vs, _ from r); subst e1; exact .frz e2
  | kt xs => cases h
  | fn k => cases h
  | kd k => cases h
  | ref i =>
    obtain ⟨p, e1, e2⟩ := (show ∃ a, _ from r)
    subst e2
    simp only [tyW] at h
    split at h
    · rename_i xs hx; cases h; obtain ⟨vs, q, _⟩ := R.obj i _ p hx e1; exact .lst q
    · rename_i xs hx; cases h; obtain ⟨vs, q, _⟩ := R.obj i _ p hx e1; exact .dK q
    · rename_i xs hx; cases h; obtain ⟨vs, q, _⟩ := R.obj i _ p hx e1; exact .dT q
    · rename_i k fs hx
      cases h
      obtain ⟨dx, gs, q, _⟩ := R.obj i _ p hx e1
      obtain ⟨h1, h2, h3, h4, h5⟩ := hi k rfl
      exact .ins q h1 h2 h3 h4 h5
    · cases h
/-- isinstance(e, C): the call's reading -/
theorem isa_tCB (hg : CnOk g T) {ra : Sl → M → Res W} {u : Ty} {cv : V} (hc : ClsV cv (u.val T)) {tc : TE} (htc : ∀ σ H Q, Q cv H → tc σ H Q) (σ : St) (H : Hp) (Q : VK) (h : tE T Wx (one ra (isaSem g u)) σ H Q) :
    tCB (rIsi T.K) (tCons (tE T Wx ra) (tCons tc tNil)) σ H Q := by
  obtain ⟨c, σw, eH, R, S, w⟩ := h
  refine ⟨c, σw, eH, R, S, (Wp.bind (R := RelW T) w).mono ?_⟩
  rintro x H1 ⟨d, wx, e1, ext, R1, rx, w1⟩
  unfold isaSem at w1
  split at w1
  · rename_i t ht
    split at w1
    · rename_i b hb
      refine htc σ H1 _ ?_
      refine ⟨x, cv, t.val T, u.val T, b, rfl, hc, e1 ▸ tyW_rel R1 ht rx (fun k e => hg.ins u k b (e ▸ hb)), hg.isa t u b hb, ?_⟩
      exact e1 ▸ w1 d.ρ d.H _ (Ext.refl d) R1 rfl
    · exact w1.elim
  · exact w1.elim
/-! ### attributes -/
def fldSem (g : Cn) (f : Nat) (a : W) (m : M) : Res W :=
  match a with
  | .ref i => match m[i]? with
    | some (some (.ins k fs)) => if f ∈ g.fields k then match fs.lookup f with
        | some w => .ok w m
        | none => .stuck
      else .stuck
    | _ => .stuck
  | _ => .stuck
theorem names_inj {i j : Nat} {x : Str} (a : T.names[i]? = some x) (b : T.names[j]? = some x) : i = j := nodup_ix T.nd a b
theorem fs_lookup {c : Cf} {f : Nat} {x : Str} (hx : T.names[f]? = some x) : ∀ {fs : List (Nat × W)} {gs : List (Str × V)}, FsRel T c fs gs →
    (fs.lookup f = none ∧ gs.lookup x = none) ∨ ∃ w v, fs.lookup f = some w ∧ gs.lookup x = some v ∧ RelW T c w v
  | _, _, .nil => .inl ⟨rfl, rfl⟩
  | (p, w) :: fs, (q, v) :: gs, .cons h t => by
    obtain ⟨e, r⟩ := h
    have ih := fs_lookup hx t
    by_cases hp : f = p
    · subst hp
      have hq : q = x := Option.some.inj (e.symm.trans hx)
      subst hq
      exact .inr ⟨w, v, by simp, by simp, r⟩
    · have hq : x ≠ q := fun z => hp (names_inj hx (z ▸ e))
      have h1 : List.lookup f ((p, w) :: fs) = fs.lookup f := by
        rw [List.lookup_cons]
        have : (f == p) = false := beq_eq_false_iff_ne.mpr hp
        rw [this]
      have h2 : List.lookup x ((q, v) :: gs) = gs.lookup x := by
        rw [List.lookup_cons]
        have : (x == q) = false := beq_eq_false_iff_ne.mpr hq
        rw [this]
      rw [h1, h2]
      exact ih
theorem fld_tFld (hg : CnOk g T) {f : Nat} {x : Str} (hx : T.names[f]? = some x) {ra : Sl → M → Res W} (σ : St) (H : Hp) (Q : VK) (h : tE T Wx (one ra (fldSem g f)) σ H Q) : tFld T.K (tE T Wx ra) x σ H Q := by
  obtain ⟨c, σw, eH, R, S, w⟩ := h
  refine ⟨c, σw, eH, R, S, (Wp.bind (R := RelW T) w).mono ?_⟩
  rintro v H1 ⟨d, wx, e1, ext, R1, rx, w1⟩
  unfold fldSem at w1
  split at w1
  · split at w1
    · rename_i i _ k fs ho
      split at w1
      · rename_i hf
        split at w1
        · rename_i z hz
          obtain ⟨p, e2, e3⟩ := (show ∃ a, _ from rx)
          obtain ⟨dx, gs, q1, q2⟩ := R1.obj i _ p ho e2
          subst e3 e1
          rcases fs_lookup hx q2 with ⟨n1, _⟩ | ⟨w', v', n1, n2, n3⟩
          · rw [hz] at n1; cases n1
          · rw [hz] at n1
            cases n1
            exact ⟨p, T.ca k, dx, gs, v', rfl, q1, hg.cls k f hf, hg.noat k f x hf hx, n2, w1 d.ρ d.H _ (Ext.refl d) R1 n3⟩
        · exact w1.elim
      · exact w1.elim
    · exact w1.elim
  · exact w1.elim
/-! ### stores -/
def putN (f : Nat) (w : W) : List (Nat × W) → List (Nat × W)
  | [] => [(f, w)]
  | (g, x) :: r => if g = f then (g, w) :: r else (g, x) :: putN f w r
theorem putN_rel {c : Cf} {f : Nat} {x : Str} {w : W} {v : V} (hx : T.names[f]? = some x) (r : RelW T c w v) : ∀ {fs : List (Nat × W)} {gs : List (Str × V)}, FsRel T c fs gs → FsRel T c (putN f w fs) (putF x v gs)
  | _, _, .nil => .cons ⟨hx, r⟩ .nil
  | (p, w0) :: fs, (q, v0) :: gs, .cons h t => by
    obtain ⟨e, r0⟩ := h
    unfold putN putF
    by_cases hp : p = f
    · subst hp
      have hq : q = x := Option.some.inj (e.symm.trans hx)
      rw [if_pos rfl, if_pos hq]
      exact .cons ⟨e, r⟩ t
    · have hq : q ≠ x := fun z => hp (names_inj (show T.names[p]? = some x by rw [← z]; exact e) hx)
      rw [if_neg hp, if_neg hq]
      exact .cons ⟨e, r0⟩ (putN_rel hx r t)
/-- the memory behind a store o.f = w -/
def fldPut (g : Cn) (f : Nat) (a w : W) (m : M) : Res Unit :=
  match a with
  | .ref i => match m[i]? with
    | some (some (.ins k fs)) => if f ∈ g.fields k ∧ fs.length < 1000 then .ok () (setO m i (.ins k (putN f w fs))) else .stuck
    | _ => .stuck
  | _ => .stuck
def putD {κ : Type} [DecidableEq κ] (kvs : List (κ × W)) (k : κ) (v : W) : List (κ × W) :=
  if (kvs.any fun kv => decide (kv.1 = k)) = true then kvs.map (fun kv => if kv.1 = k then (kv.1, v) else kv) else kvs ++ [(k, v)]
/-- the memory behind a[b] = w -/
def itemPut (a b w : W) (m : M) : Res Unit :=
  match a with
  | .ref i => match m[i]? with
    | some (some (.lst xs)) => match b with
      | .int k => match ixN xs.length k with
        | some j => .ok () (setO m i (.lst (xs.set j w)))
        | none => .stuck
      | _ => .stuck
    | some (some (.dK kvs)) => match keyOf b with
      | some k => if kvs.length < sizeLine then .ok () (setO m i (.dK (putD kvs k w))) else .stuck
      | none => .stuck
    | some (some (.dT kvs)) => match b with
      | .tup xs => match xs.mapM keyOf with
        | some ks => if kvs.length < sizeLine then .ok () (setO m i (.dT (putD kvs ks w))) else .stuck
        | none => .stuck
      | _ => .stuck
    | _ => .stuck
  | _ => .stuck
theorem putD_rel {κ : Type} [DecidableEq κ] {c : Cf} {k : κ} {w : W} {v : V} (r : RelW T c w v) {kvs : List (κ × W)} {us : List (κ × V)} (h : Paired (fun p q => p.1 = q.1 ∧ RelW T c p.2 q.2) kvs us) :
    Paired (fun p q => p.1 = q.1 ∧ RelW T c p.2 q.2) (putD kvs k w) (putK us k v) := by
  have ha : (kvs.any fun kv => decide (kv.1 = k)) = (us.any fun kv => decide (kv.1 = k)) := by
    induction h with
    | nil => rfl
    | cons h t ih => rw [List.any_cons, List.any_cons, ih, h.1]
  unfold putD putK
  rw [ha]
  split
  · clear ha
    rename_i hh
    clear hh
    induction h with
    | nil => exact .nil
    | @cons a b _ _ h t ih =>
      refine .cons ?_ ih
      show (if a.1 = k then (a.1, w) else a).1 = (if b.1 = k then (b.1, v) else b).1 ∧ RelW T c (if a.1 = k then (a.1, w) else a).2 (if b.1 = k then (b.1, v) else b).2
      by_cases hb : b.1 = k
      · rw [if_pos (h.1.trans hb), if_pos hb]
        exact ⟨h.1, r⟩
      · rw [if_neg (fun z => hb (h.1.symm.trans z)), if_neg hb]
        exact h
  · clear ha
    rename_i hh
    clear hh
    induction h with
    | nil => exact .cons ⟨rfl, r⟩ .nil
    | cons h t ih => exact .cons h ih
theorem itemPut_ok {c : Cf} (hK : X.K = T.K) (hu : X.A.units + 64 < cLine) (R : MP.RelM T c) {a b w : W} {x y z : V} {ov iv u : Value} {pins : List (Addr × Obj)} {σ : L2.St} {s : Shared} {Q : Hp → Prop} (I : Inv X pins σ c.H s)
    (rx : RelV x ov) (ry : RelV y iv) (rz : RelV z u) (ra : RelW T c a x) (rb : RelW T c b y) (rw' : RelW T c w z)
    (h : match itemPut a b w c.m with
      | .ok _ m => ∀ ρ H, Ext c ⟨ρ, m, H, c.res⟩ → MP.RelM T ⟨ρ, m, H, c.res⟩ → Q H
      | _ => False) : wpAny (model X.prog X.w) X.A (setItem ov iv u) (fun _ s' => ∃ H', Inv X pins σ H' s' ∧ Q H') X.xe s := by
  unfold itemPut at h
  split at h
  · rename_i r m hr
    split at hr
    · rename_i i
      obtain ⟨p, e1, e2⟩ := (show ∃ a, _ from ra)
      subst e2
      split at hr
      · rename_i xs ho
        split at hr
        · split at hr
          · rename_i k _ j hj
            cases hr
            cases rb
            obtain ⟨vs, q1, q2⟩ := R.obj i _ p ho e1
            have ext := RelM.extChg (u := .lst (vs.set j z)) (o := .lst (xs.set j w)) ho e1
            exact set_list pins s σ _ _ _ _ ov iv u Q I rx ry rz ⟨p, vs, k, j, rfl, rfl, q1, by rw [← q2.length]; exact hj, h c.ρ _ ext (R.chg ho e1 ⟨_, upd_same, (q2.set rw' j).ext R ext⟩)⟩
          · cases hr
        · cases hr
      · rename_i kvs ho
        split at hr
        · rename_i k hk
          split at hr
          · rename_i hl
            cases hr
            obtain ⟨us, q1, q2⟩ := R.obj i _ p ho e1
            have ey := keyOf_rel hk rb
            subst ey
            cases (show ov = Value.ref p from rx)
            have ext := RelM.extChg (u := .dK (putK us k z)) (o := .dK (putD kvs k w)) ho e1
            refine d_setItem (H' := upd c.H p (.dK (putK us k z))) (by omega) I (.inl ⟨us, k, q1, rfl, by rw [← Paired.len q2]; exact hl, rfl⟩) ry rz fun s' I' => ⟨_, I', h c.ρ _ ext (R.chg ho e1 ⟨_, upd_same, Paired.mp (putD_rel rw' q2) fun _ _ z => ⟨z.1, z.2.ext R ext⟩⟩)⟩
          · cases hr
        · cases hr
      · rename_i kvs ho
        split at hr
        · rename_i xs
          split at hr
          · rename_i ks hk
            split at hr
            · rename_i hl
              cases hr
              obtain ⟨us, q1, q2⟩ := R.obj i _ p ho e1
              obtain ⟨b', vs, f1, f2, f3⟩ := (show ∃ a vs, _ from rb)
              subst f1
              have ev := keysOf_rel hk f3
              subst ev
              cases (show ov = Value.ref p from rx)
              have ext := RelM.extChg (u := .dT (putK us ks z)) (o := .dT (putD kvs ks w)) ho e1
              refine d_setItem (H' := upd c.H p (.dT (putK us ks z))) (by omega) I (.inr ⟨us, ks, b', q1, rfl, f2, by rw [← Paired.len q2]; exact hl, rfl⟩) ry rz fun s' I' => ⟨_, I', h c.ρ _ ext (R.chg ho e1 ⟨_, upd_same, Paired.mp (putD_rel rw' q2) fun _ _ z => ⟨z.1, z.2.ext R ext⟩⟩)⟩
            · cases hr
          · cases hr
        · cases hr
      · cases hr
    · cases hr
  · exact h.elim
end
end MP
end

section
set_option maxHeartbeats 4000000
/-! MPIter: what a for or a comprehension walks. -/
namespace MP
open PySem PySem.Spec PyProof.Rows L2

/-- what is walked: items that stand fast, or a list that may grow meanwhile -/
inductive Src where
  | items (ws : List W)
  | live (i : Nat)
  deriving Inhabited
def SrcOk (T : Tb) (c0 : Cf) (J : It) : Src → Prop
  | .items ws => (∀ i c, ExtW c0 c → MP.RelM T c → i < ws.length → J.go i c.H) ∧ (∀ c, ExtW c0 c → MP.RelM T c → J.stop ws.length c.H) ∧
      ∀ i c w x H', ExtW c0 c → MP.RelM T c → ws[i]? = some w → J.yld i c.H x H' → ∃ c' : Cf, c'.H = H' ∧ c'.m = c.m ∧ c'.res = c.res ∧ Ext c c' ∧ MP.RelM T c' ∧ RelW T c' w x
  | .live i => ∃ a, c0.ρ[i]? = some a ∧ J = Itl T.K a
def tI (T : Tb) (Wx : WX) (r : Sl → M → Res Src) : TI := fun σ H R => ∃ (c : Cf) (σw : Sl), c.H = H ∧ MP.RelM T c ∧ RelS T c σw σ ∧ Wp T Wx σ (fun c' s J => SrcOk T c' J s) c (r σw c.m) R
theorem PI.imp' {X : Cx} {tg iter : Expr} {wi wi' : TI} (h : PI X tg iter wi) (k : ∀ σ H R, wi' σ H R → wi σ H R) : PI X tg iter wi' := ⟨fun pins s σ H R I q => h.run pins s σ H R I (k σ H R q)⟩
theorem PI.or {X : Cx} {tg iter : Expr} {wi wi' : TI} (h : PI X tg iter wi) (h' : PI X tg iter wi') : PI X tg iter (fun σ H R => wi σ H R ∨ wi' σ H R) := ⟨fun pins s σ H R I q => by
  rcases q with q | q
  · exact h.run pins s σ H R I q
  · exact h'.run pins s σ H R I q⟩

/-! ### a value: list, tuple, text -/
def signs (z : Str) : List W := z.cps.toList.map fun c => .str ⟨#[c]⟩
def srcOf (w : W) (m : M) : Res Src :=
  match w with
  | .str z => .ok (.items (signs z)) m
  | .tup xs => .ok (.items xs) m
  | .kt xs => .ok (.items xs) m
  | .lst xs => .ok (.items xs) m
  | .kl xs => .ok (.items xs) m
  | .ref i => match m[i]? with
    | some (some (.lst _)) => .ok (.live i) m
    | _ => .stuck
  | _ => .stuck
def srcVal (r : Sl → M → Res W) : Sl → M → Res Src := fun σ m => (r σ m).bind srcOf
section
variable {T : Tb} {Wx : WX}
theorem tE_run {r : Sl → M → Res W} {c : Cf} {σw : Sl} {σ : St} {f : W → M → Res Src} {R : It → Hp → Prop} {P : V → Hp → Prop} (Rm : MP.RelM T c) (S : RelS T c σw σ) (w : Wp T Wx σ (fun c' s J => SrcOk T c' J s) c ((r σw c.m).bind f) R)
    (h : ∀ (e : Cf) (a : W) (v : V), Ext c e → MP.RelM T e → RelW T e a v → r σw c.m = .ok a e.m → Wp T Wx σ (fun c' s J => SrcOk T c' J s) e (f a e.m) R → P v e.H) : tE T Wx r σ c.H P := by
  refine ⟨c, σw, rfl, Rm, S, ?_⟩
  have w' := Wp.bind (R := RelW T) w
  cases hr : r σw c.m with
  | ok a m =>
    rw [hr] at w'
    intro ρ H v e1 e2 e3
    obtain ⟨e, a', q1, q2, q3, q4, q5⟩ := w' ρ H v e1 e2 e3
    have wq : Wp T Wx σ (fun c' s J => SrcOk T c' J s) c (f a m) R := by
      rw [hr] at w; exact w
    exact h ⟨ρ, m, H, c.res⟩ a v e1 e2 e3 hr (Wp.ext wq e1)
  | exc k fs m => rw [hr] at w'; exact w'
  | stuck => rw [hr] at w'; exact w'
theorem stayT {c0 c : Cf} (R0 : MP.RelM T c0) (h : ExtW c0 c) {a : Addr} {vs : List V} (s : SqT T.K c0.H a vs) : SqT T.K c.H a vs := R0.sqTW h s
theorem src_seq {c0 : Cf} (R0 : MP.RelM T c0) {ws : List W} {vs : List V} {J : It} (rv : RelWs T c0 ws vs) (hgo : ∀ i c, ExtW c0 c → MP.RelM T c → i < vs.length → J.go i c.H) (hst : ∀ c, ExtW c0 c → MP.RelM T c → J.stop vs.length c.H)
    (hy : ∀ i c x H', ExtW c0 c → MP.RelM T c → J.yld i c.H x H' → H' = c.H ∧ vs[i]? = some x) : SrcOk T c0 J (.items ws) := by
  refine ⟨fun i c e r hi => hgo i c e r (by rw [← rv.length]; exact hi), fun c e r => by rw [rv.length]; exact hst c e r, fun i c w x H' e r hw q => ?_⟩
  obtain ⟨e1, e2⟩ := hy i c x H' e r q
  obtain ⟨v, e3, e4⟩ := (rv.extW R0 e).get hw
  rw [e2] at e3
  cases e3
  exact ⟨c, e1.symm, rfl, rfl, Ext.refl c, r, e4⟩
theorem src_tup {c0 : Cf} (R0 : MP.RelM T c0) {ws : List W} {vs : List V} {a : Addr} (s : SqT T.K c0.H a vs) (rv : RelWs T c0 ws vs) : SrcOk T c0 (Itt T.K a) (.items ws) :=
  src_seq R0 rv (fun i c e r hi => ⟨vs, vs[i], R0.sqTW e s, by simp [hi]⟩) (fun c e r => ⟨vs, R0.sqTW e s, Nat.le_refl _⟩) (fun i c x H' e r q => ⟨q.1, q.2 vs (R0.sqTW e s)⟩)
theorem src_lst {c0 : Cf} (R0 : MP.RelM T c0) {ws : List W} {vs : List V} {a : Addr} (s : ∀ c, ExtW c0 c → MP.RelM T c → SqL T.K c.H a vs) (rv : RelWs T c0 ws vs) : SrcOk T c0 (Itl T.K a) (.items ws) :=
  src_seq R0 rv (fun i c e r hi => ⟨vs, vs[i], s c e r, by simp [hi]⟩) (fun c e r => ⟨vs, s c e r, Nat.le_refl _⟩) (fun i c x H' e r q => ⟨q.1, q.2 vs (s c e r)⟩)
theorem src_str {c0 : Cf} (R0 : MP.RelM T c0) (z : Str) : SrcOk T c0 (Its z) (.items (signs z)) := by
  have hl : (signs z).length = z.cps.size := by simp [signs]
  refine ⟨fun i c e r hi => ?_, fun c e r => ?_, fun i c w x H' e r hw q => ?_⟩
  · show i < z.cps.size
    omega
  · show z.cps.size ≤ _
    omega
  · obtain ⟨e1, cc, e2, e3⟩ := q
    subst e3
    have e4 : (signs z)[i]? = some (.str ⟨#[cc]⟩) := by
      unfold signs
      rw [List.getElem?_map, Array.getElem?_toList, e2]
      rfl
    rw [e4] at hw
    cases hw
    exact ⟨c, e1.symm, rfl, rfl, Ext.refl c, r, rfl⟩
theorem noTupAt {c : Cf} (R : MP.RelM T c) {a : Addr} {vs : List V} (h : c.H a = some (.tup vs)) : ¬ Alive c a := R.noTup (u := .tup vs) (fun _ z => nomatch z) (fun _ z => nomatch z) (fun _ z => nomatch z) (fun _ _ _ z => nomatch z) h
theorem noFrzAt {c : Cf} (R : MP.RelM T c) {a : Addr} {o : Obj} {u : HO} (h : c.H a = some (.frz o u)) : ¬ Alive c a := R.noTup (u := .frz o u) (fun _ z => nomatch z) (fun _ z => nomatch z) (fun _ z => nomatch z) (fun _ _ _ z => nomatch z) h
theorem pi_val {X : Cx} {tg e : Expr} {r : Sl → M → Res W} (hK : X.K = T.K) (he : PE X e (tE T Wx r)) : PI X tg e (tI T Wx (srcVal r)) := by
  refine MP.PI.imp' (MP.PI.or (pi_list he) (MP.PI.or (pi_tup he) (pi_str he))) fun σ H R h => ?_
  obtain ⟨c, σw, eH, Rm, S, w⟩ := h
  subst eH
  rw [hK]
  cases hr : r σw c.m with
  | exc k fs m =>
    refine .inl ⟨c, σw, rfl, Rm, S, ?_⟩
    rw [hr]
    simp only [srcVal, hr, Res.bind] at w
    exact w
  | stuck =>
    simp only [srcVal, hr, Res.bind] at w
    exact w.elim
  | ok a m =>
    have same : ∀ {b : W} {e : Cf}, r σw c.m = .ok b e.m → b = a := fun {b e} q => by rw [hr] at q; cases q; rfl
    cases a with
    | str z =>
      refine .inr (.inr (tE_run Rm S w fun e b v ext Re rb hb wb => ?_))
      cases same hb
      cases rb
      exact ⟨z, rfl, wb e.ρ e.H (Its z) (Ext.refl e) Re (src_str Re z)⟩
    | tup xs =>
      refine .inr (.inl (tE_run Rm S w fun e b v ext Re rb hb wb => ?_))
      cases same hb
      obtain ⟨p, vs, e1, e2, e3⟩ := (show ∃ a vs, _ from rb)
      subst e1
      exact ⟨p, rfl, ⟨vs, .inl (.inl e2)⟩, wb e.ρ e.H _ (Ext.refl e) Re (src_tup Re (.inl (.inl e2)) e3)⟩
    | kt xs =>
      refine .inr (.inl (tE_run Rm S w fun e b v ext Re rb hb wb => ?_))
      cases same hb
      obtain ⟨p, vs, e1, e2, e3⟩ := (show ∃ a vs, _ from rb)
      subst e1
      exact ⟨p, rfl, ⟨vs, e2⟩, wb e.ρ e.H _ (Ext.refl e) Re (src_tup Re e2 e3)⟩
    | lst xs =>
      refine .inl (tE_run Rm S w fun e b v ext Re rb hb wb => ?_)
      cases same hb
      obtain ⟨p, vs, e1, e2, n, e3⟩ := (show ∃ a vs, _ from rb)
      subst e1
      exact ⟨p, rfl, ⟨vs, .inl (.inl e2)⟩, wb e.ρ e.H _ (Ext.refl e) Re (src_lst Re (fun c' x _ => .inl (.inl (x.own e2 n).1)) e3)⟩
    | kl xs =>
      refine .inl (tE_run Rm S w fun e b v ext Re rb hb wb => ?_)
      cases same hb
      obtain ⟨p, vs, e1, ⟨o, e2⟩, e3⟩ := (show ∃ a vs, _ from rb)
      subst e1
      exact ⟨p, rfl, ⟨vs, .inl (.inr ⟨o, e2⟩)⟩, wb e.ρ e.H _ (Ext.refl e) Re (src_lst Re (fun c' x _ => .inl (.inr ⟨o, (x.stay p _ e2 (Re.frzOwn e2)).1⟩)) e3)⟩
    | ref i =>
      refine .inl (tE_run Rm S w fun e b v ext Re rb hb wb => ?_)
      cases same hb
      simp only [srcOf] at wb
      split at wb
      · rename_i xs hx
        obtain ⟨p, vs, e1, e2, e3, e4⟩ := ref_lst Re hx rb
        subst e1
        exact ⟨p, rfl, ⟨vs, .inl (.inl e3)⟩, wb e.ρ e.H _ (Ext.refl e) Re ⟨p, e2, rfl⟩⟩
      · exact wb.elim
    | non => simp only [srcVal, hr, Res.bind, srcOf] at w; exact w.elim
    | bl b => simp only [srcVal, hr, Res.bind, srcOf] at w; exact w.elim
    | int b => simp only [srcVal, hr, Res.bind, srcOf] at w; exact w.elim
    | fn b => simp only [srcVal, hr, Res.bind, srcOf] at w; exact w.elim
    | kd b => simp only [srcVal, hr, Res.bind, srcOf] at w; exact w.elim

/-! ### ranges -/
def rangeW (lo : Int) (n : Nat) : List W := (List.range n).map fun k => .int (lo + (k : Nat))
def srcRange (as : List W) (m : M) : Res Src :=
  match as with
  | [.int j] => if -(2 ^ 62) ≤ j ∧ j < 2 ^ 62 then .ok (.items (rangeW 0 j.toNat)) m else .stuck
  | [.int i, .int j] => if -(2 ^ 62) ≤ i ∧ i < 2 ^ 62 ∧ -(2 ^ 62) ≤ j ∧ j < 2 ^ 62 then .ok (.items (rangeW i (j - i).toNat)) m else .stuck
  | _ => .stuck
def srcArgs (f : List W → M → Res Src) (rs : Sl → M → Res (List W)) : Sl → M → Res Src := fun σ m => (rs σ m).bind f
theorem src_range {c0 : Cf} (lo : Int) (n : Nat) : SrcOk T c0 (Itr lo n) (.items (rangeW lo n)) := by
  have hl : (rangeW lo n).length = n := by simp [rangeW]
  refine ⟨fun i c e r hi => ?_, fun c e r => ?_, fun i c w x H' e r hw q => ?_⟩
  · show i < n
    omega
  · show n ≤ _
    omega
  · obtain ⟨e1, e2⟩ := q
    subst e2
    have hi : i < n := by
      have := (List.getElem?_eq_some_iff.mp hw).1
      omega
    have e4 : (rangeW lo n)[i]? = some (.int (lo + (i : Nat))) := by
      unfold rangeW
      rw [List.getElem?_map, List.getElem?_range hi]
      rfl
    rw [e4] at hw
    cases hw
    exact ⟨c, e1.symm, rfl, rfl, Ext.refl c, r, rfl⟩
theorem pi_rng1 {X : Cx} {tg a : Expr} {p pos : Pos} {rs : Sl → M → Res (List W)} (hg : Gl X "range") (hm : X.mg "range" = none) (ha : PA X [a] (tEs T Wx rs)) (hs : starEach [a] X.env = [(false, eval a X.env)]) :
    PI X tg (.Call (.Name "range" p) [a] [] pos) (tI T Wx (srcArgs (fun as m => match as with | [_] => srcRange as m | _ => .stuck) rs)) := by
  refine MP.PI.imp' (pi_range1 hg hm ha hs) fun σ H R h => ?_
  obtain ⟨c, σw, eH, Rm, S, w⟩ := h
  refine ⟨c, σw, eH, Rm, S, (Wp.bind (R := RelWs T) w).mono ?_⟩
  rintro xs H1 ⟨d, ws, e1, ext, R1, rx, w1⟩
  split at w1
  · rename_i b
    obtain ⟨v, rfl, rv⟩ := one_arg rx
    unfold srcRange at w1
    split at w1
    · rename_i j hj
      cases hj
      cases rv
      split at w1
      · rename_i hb
        exact ⟨j, rfl, hb.1, hb.2, e1 ▸ w1 d.ρ d.H _ (Ext.refl d) R1 (src_range 0 _)⟩
      · exact w1.elim
    · rename_i hj; cases hj
    · exact w1.elim
  · exact w1.elim
theorem pi_rng2 {X : Cx} {tg a b : Expr} {p pos : Pos} {rs : Sl → M → Res (List W)} (hg : Gl X "range") (hm : X.mg "range" = none) (ha : PA X [a, b] (tEs T Wx rs)) (hs : starEach [a, b] X.env = [(false, eval a X.env), (false, eval b X.env)]) (hs2 : starEach [b] X.env = [(false, eval b X.env)]) :
    PI X tg (.Call (.Name "range" p) [a, b] [] pos) (tI T Wx (srcArgs (fun as m => match as with | [_, _] => srcRange as m | _ => .stuck) rs)) := by
  refine MP.PI.imp' (pi_range2 hg hm ha hs hs2) fun σ H R h => ?_
  obtain ⟨c, σw, eH, Rm, S, w⟩ := h
  refine ⟨c, σw, eH, Rm, S, (Wp.bind (R := RelWs T) w).mono ?_⟩
  rintro xs H1 ⟨d, ws, e1, ext, R1, rx, w1⟩
  split at w1
  · obtain ⟨v, v2, rfl, rv, rv2⟩ := two_args rx
    unfold srcRange at w1
    split at w1
    · rename_i hj; cases hj
    · rename_i i j hj
      cases hj
      cases rv; cases rv2
      split at w1
      · rename_i hb
        exact ⟨i, j, rfl, hb, e1 ▸ w1 d.ρ d.H _ (Ext.refl d) R1 (src_range i _)⟩
      · exact w1.elim
    · exact w1.elim
  · exact w1.elim
end
end MP
end

section
set_option maxHeartbeats 4000000
/-! MPEnum: enumerate of a list or a text, zip of two lists. -/
namespace MP
open PySem PySem.Spec PyProof.Rows L2

/-! ### enumerate of a text -/
def ItS (z : Str) : It where
  go := fun i _ => i < z.cps.size
  yld := fun i H v H' => ∃ T cc, v = .ref T ∧ H T = none ∧ H' = upd H T (.tup [.int (i : Nat), .str ⟨#[cc]⟩]) ∧ z.cps[i]? = some cc
  stop := fun i _ => z.cps.size ≤ i
def SignAt (z : Str) (i : Nat) (v : Value) : Prop := ∃ c u, z.cps[i]? = some c ∧ v = .str ⟨#[c]⟩ u
theorem drawsS {prog : Program} {w : World} {A : Around} (hh : A.handled = none) (it : Addr) (z : Str) (t : Tok) : Draws prog w A it [it] z.cps.size (SignAt z) (fun i h => h.IsStrIter it (strIterType z) z t i) := by
  unfold strIterType
  split
  · exact Draws.strAscii hh it z t
  · exact Draws.strWide hh it z t
theorem turnS {P : Program} {w : World} {K : PySem.W.Frag} {elts : List Expr} {kk : Nat} {tpos : Pos} (z : Str) (t : Tok) (e it : Addr) :
    Turn P w K (.Tuple elts kk tpos) (ItS z) [e, it] e (fun i h => i ≤ z.cps.size ∧ (∃ old, IsEnum h e it ((i : Nat) : Int) old) ∧ h.IsStrIter it (strIterType z) z t i ∧ e ≠ it) := by
  have two : ∀ b, b ∈ [e, it] → b = e ∨ b = it := fun b hb => by simpa using hb
  refine ⟨by simp, fun i h st b hb => ?_, fun i h h' st k => ?_, ?_, ?_, fun A i s Q E st h => ?_⟩
  · obtain ⟨_, ⟨old, he⟩, ⟨o, ho, hc, hd⟩, _⟩ := st
    rcases two b hb with q | q
    · subst q; exact ⟨_, he, fun v y => nomatch y⟩
    · subst q; exact ⟨o, ho, fun v y => by rw [hd] at y; cases y⟩
  · obtain ⟨hi, ⟨old, he⟩, ⟨o, ho, hr⟩, hne⟩ := st
    exact ⟨hi, ⟨old, k e (by simp) _ he⟩, ⟨o, k it (by simp) o ho, hr⟩, hne⟩
  · intro X hP hw hK hc i pins s σ H E I hf st hg
    subst hP hw hK
    obtain ⟨hi, ⟨old, he⟩, hit, hne⟩ := st
    have hg : i < z.cps.size := hg
    have hel : e < s.heap.objs.size := Heap.lt_size he
    have hil : it < s.heap.objs.size := by
      obtain ⟨_, q, _⟩ := hit
      exact Heap.lt_size q
    have D := drawsS (prog := X.prog) (w := X.w) (A := X.A.in1) (I.ok.hd hc) it z t
    refine wpAny_pyNext_enum_itemD D he hit hg hne (by simpa using hne) fun x h' tk hx ho hit' hT hsz hk => ?_
    obtain ⟨cc, u, hcc, ex⟩ := hx
    subst ex
    refine ⟨_, rfl, wpAny_letOwnedTupleGo_enum (s := { s with heap := h', toks := tk + 1 }) ho fun h2 he2 sb => ?_⟩
    have ne0 : s.heap.objs.size ≠ e := Nat.ne_of_gt hel
    have hT2 := (sb.2 _ ne0).trans hT
    have rels : Vals [.int (i : Nat), .str ⟨#[cc]⟩] [.int i tk, .str ⟨#[cc]⟩ u] := .cons ⟨_, rfl⟩ (.cons ⟨_, rfl⟩ .nil)
    have hn := I.hok.fresh (Nat.le_refl s.heap.objs.size)
    have J : Inv X pins σ (upd H s.heap.objs.size (.tup [.int (i : Nat), .str ⟨#[cc]⟩])) { s with heap := h2, toks := tk + 1 } := by
      refine I.turnedNew (ch := [e, it]) (fun b ob hb q => ?_) hf (Nat.le_refl _) ⟨by show 2 ≤ sizeLine; decide, _, rels, ⟨_, hT2, rfl, _, rfl⟩⟩
      have b1 : b ≠ e := fun y => hb (by simp [y])
      have b2 : b ≠ it := fun y => hb (by simp [y])
      exact (sb.2 b b1).trans (hk b ob b1 b2 q)
    refine ⟨.ref s.heap.objs.size, _, J, rfl, ⟨_, cc, rfl, hn, rfl, hcc⟩, ⟨hg, ⟨.str ⟨#[cc]⟩ u, ?_⟩, ?_, hne⟩, fun b hb => ?_⟩
    · have e1 : ((i + 1 : Nat) : Int) = (i : Int) + 1 := by omega
      rw [e1]
      exact he2
    · obtain ⟨o, q, r⟩ := hit'
      exact ⟨o, (sb.2 it (Ne.symm hne)).trans q, r⟩
    · have hb2 : b < s.heap.objs.size := by
        rcases two b hb with q | q
        · rw [q]; exact hel
        · rw [q]; exact hil
      rw [upd_ne (Nat.ne_of_lt hb2)]
      exact (hf b hb).1
  · intro X hP hw hK hc i pins s σ H E I hf st hg
    subst hP hw hK
    obtain ⟨hi, ⟨old, he⟩, hit, hne⟩ := st
    have hg : z.cps.size ≤ i := hg
    have ei : i = z.cps.size := Nat.le_antisymm hi hg
    subst ei
    obtain ⟨f0, f1, f2, f3, f4, f5⟩ := hf it (by simp)
    have D := drawsS (prog := X.prog) (w := X.w) (A := X.A.in1) (I.ok.hd hc) it z t
    exact wpAny_pyNext_enum_endD D he hit fun h' eb => ⟨rfl, I.turned (t' := s.toks) (fun b o hb q => eb b o hb q) f0 f1 f3 f4 f5⟩
  · obtain ⟨_, ⟨_, he⟩, _⟩ := st
    exact wpAny_pyIter_enum he h
def iEnS (ta : TA) : TI := fun σ H R => ta σ H fun vs H1 => ∃ z, vs = [.str z] ∧ R (ItS z) H1
theorem pi_enS {X : Cx} {e : Expr} {ta : TA} {p pos tpos : Pos} {elts : List Expr} {kk : Nat} (hg : Gl X "enumerate") (hm : X.mg "enumerate" = none) (ha : PA X [e] ta) (hs : starEach [e] X.env = [(false, eval e X.env)]) :
    PI X (.Tuple elts kk tpos) (.Call (.Name "enumerate" p) [e] [] pos) (iEnS ta) := by
  refine ⟨fun pins s σ H R I h => ?_⟩
  refine Call_ (ld_blt I hg hm boot_enumerate ?_)
  refine PyProof.Rows.callWith_type1 (thn (ha.run pos pins s σ H _ I h) fun us s1 ⟨vs, H1, I1, r1, z, ev, q⟩ => ?_) hs rfl
  subst ev
  obtain ⟨u, eu, ru⟩ := vals1 r1
  obtain ⟨t, et⟩ := (show ∃ t, u = Value.str z t from ru)
  subst eu et
  refine call_enumerate_str fun h' he hit hsz hk => wpAny_pyIter_enum he ?_
  have J : Inv X pins σ H1 { s1 with heap := h' } := I1.kept (t' := s1.toks) hk
  refine ⟨_, [s1.heap.objs.size + 1, s1.heap.objs.size], _, _, H1, rfl, J, turnS z t _ _, ⟨Nat.zero_le _, ⟨.none, he⟩, hit, Nat.succ_ne_self _⟩, fun b hb => ?_, q⟩
  have hle : s1.heap.objs.size ≤ b := by
    have : b = s1.heap.objs.size + 1 ∨ b = s1.heap.objs.size := by simpa using hb
    rcases this with q | q
    · rw [q]; exact Nat.le_add_right _ _
    · rw [q]; exact Nat.le_refl _
  exact I1.fpOk hle (I1.hok.fresh hle)

/-! ### pairs -/
def pairs (ws : List W) : List W := (ws.zipIdx).map fun p => .tup [.int (p.2 : Nat), p.1]
theorem pairs_at (ws : List W) (i : Nat) : (pairs ws)[i]? = (ws[i]?).map fun w => W.tup [.int (i : Nat), w] := by
  unfold pairs
  rw [List.getElem?_map, List.getElem?_zipIdx]
  cases ws[i]? <;> simp
theorem pairs_len (ws : List W) : (pairs ws).length = ws.length := by simp [pairs]
section
variable {T : Tb} {Wx : WX}
/-- a yield that lays a pair -/
theorem yld_pair {c : Cf} (R : MP.RelM T c) {p : Addr} {a b : W} {x y : V} (hp : c.H p = none) (ra : RelW T c a x) (rb : RelW T c b y) : ∃ c' : Cf, c'.H = upd c.H p (.tup [x, y]) ∧ c'.m = c.m ∧ c'.res = c.res ∧ Ext c c' ∧ MP.RelM T c' ∧ RelW T c' (.tup [a, b]) (.ref p) := by
  have ext := R.extPut (u := .tup [x, y]) hp
  exact ⟨c.put p (.tup [x, y]), rfl, rfl, rfl, ext, R.put hp, ⟨p, [x, y], rfl, upd_same, RelWs.cons (ra.ext R ext) (RelWs.cons (rb.ext R ext) RelWs.nil)⟩⟩
theorem srcE_str {c0 : Cf} (z : Str) : SrcOk T c0 (ItS z) (.items (pairs (signs z))) := by
  have hl : (pairs (signs z)).length = z.cps.size := by rw [pairs_len]; simp [signs]
  refine ⟨fun i c e r hi => ?_, fun c e r => ?_, fun i c w x H' e r hw q => ?_⟩
  · show i < z.cps.size
    omega
  · show z.cps.size ≤ _
    omega
  · obtain ⟨p, cc, e1, e2, e3, e4⟩ := q
    subst e1 e3
    have e5 : (pairs (signs z))[i]? = some (.tup [.int (i : Nat), .str ⟨#[cc]⟩]) := by
      rw [pairs_at]
      unfold signs
      rw [List.getElem?_map, Array.getElem?_toList, e4]
      rfl
    rw [e5] at hw
    cases hw
    exact yld_pair r e2 rfl rfl
theorem srcE_lst {c0 : Cf} (R0 : MP.RelM T c0) {ws : List W} {vs : List V} {a : Addr} (s : ∀ c, ExtW c0 c → MP.RelM T c → SqL T.K c.H a vs) (rv : RelWs T c0 ws vs) : SrcOk T c0 (Ite T.K a) (.items (pairs ws)) := by
  have hl := rv.length
  refine ⟨fun i c e r hi => ?_, fun c e r => ?_, fun i c w x H' e r hw q => ?_⟩
  · rw [pairs_len] at hi
    exact ⟨vs, vs[i], s c e r, by simp⟩
  · rw [pairs_len, hl]
    exact ⟨vs, s c e r, Nat.le_refl _⟩
  · obtain ⟨p, y, e1, e2, e3, e4⟩ := q
    subst e1 e3
    have e5 := e4 vs (s c e r)
    rw [pairs_at] at hw
    cases hx : ws[i]? with
    | none => rw [hx] at hw; cases hw
    | some b =>
      rw [hx] at hw
      cases hw
      obtain ⟨y', g1, g2⟩ := (rv.extW R0 e).get hx
      rw [e5] at g1
      cases g1
      exact yld_pair r e2 rfl g2
def srcEnum (as : List W) (m : M) : Res Src :=
  match as with
  | [.str z] => .ok (.items (pairs (signs z))) m
  | [.lst xs] => .ok (.items (pairs xs)) m
  | [.kl xs] => .ok (.items (pairs xs)) m
  | _ => .stuck
theorem pi_enum' {X : Cx} {e : Expr} {p pos tpos : Pos} {elts : List Expr} {kk : Nat} {rs : Sl → M → Res (List W)} (hK : X.K = T.K) (hg : Gl X "enumerate") (hm : X.mg "enumerate" = none) (ha : PA X [e] (tEs T Wx rs)) (hs : starEach [e] X.env = [(false, eval e X.env)]) :
    PI X (.Tuple elts kk tpos) (.Call (.Name "enumerate" p) [e] [] pos) (tI T Wx (srcArgs srcEnum rs)) := by
  refine MP.PI.imp' (MP.PI.or (pi_enS hg hm ha hs) (pi_enum hg hm ha hs)) fun σ H R h => ?_
  obtain ⟨c, σw, eH, Rm, S, w⟩ := h
  subst eH
  rw [hK]
  have w' := Wp.bind (R := RelWs T) w
  cases hr : rs σw c.m with
  | exc k fs m =>
    refine .inl ⟨c, σw, rfl, Rm, S, ?_⟩
    rw [hr] at w' ⊢
    exact w'
  | stuck =>
    simp only [srcArgs, hr, Res.bind] at w
    exact w.elim
  | ok as m =>
    simp only [srcArgs, hr, Res.bind] at w
    unfold srcEnum at w
    split at w
    · refine .inl ⟨c, σw, rfl, Rm, S, ?_⟩
      rw [hr]
      intro ρ H vs e1 e2 e3
      obtain ⟨v, rfl, rv⟩ := one_arg e3
      cases rv
      exact ⟨_, rfl, w ρ H _ e1 e2 (srcE_str _)⟩
    · refine .inr ⟨c, σw, rfl, Rm, S, ?_⟩
      rw [hr]
      intro ρ H vs e1 e2 e3
      obtain ⟨v, rfl, rv⟩ := one_arg e3
      obtain ⟨q, us, g1, g2, n, g3⟩ := (show ∃ a vs, _ from rv)
      subst g1
      exact ⟨q, us, rfl, .inl (.inl g2), w ρ H _ e1 e2 (srcE_lst e2 (fun c' x _ => .inl (.inl (x.own g2 n).1)) g3)⟩
    · refine .inr ⟨c, σw, rfl, Rm, S, ?_⟩
      rw [hr]
      intro ρ H vs e1 e2 e3
      obtain ⟨v, rfl, rv⟩ := one_arg e3
      obtain ⟨q, us, g1, ⟨o, g2⟩, g3⟩ := (show ∃ a vs, _ from rv)
      subst g1
      exact ⟨q, us, rfl, .inl (.inr ⟨o, g2⟩), w ρ H _ e1 e2 (srcE_lst e2 (fun c' x _ => .inl (.inr ⟨o, (x.stay q _ g2 (e2.frzOwn g2)).1⟩)) g3)⟩
    · exact w.elim
end
end MP
end

section
set_option maxHeartbeats 4000000
/-! MPLoop: targets, comprehensions, for, while. -/
namespace MP
open PySem PySem.Spec PyProof.Rows L2

/-! ### targets that are names -/
inductive Tg where
  | nm (i : Nat)
  | tp (is : List Nat)
  deriving DecidableEq
def setAll : List Nat → List W → Sl → Option Sl
  | [], [], σ => some σ
  | i :: is, w :: ws, σ => setAll is ws (σ.set i (some w))
  | _, _, _ => none
def tgSem : Tg → W → Sl → Option Sl
  | .nm i, w, σ => some (σ.set i (some w))
  | .tp is, .tup ws, σ => setAll is ws σ
  | _, _, _ => none
def Tg.slots : Tg → List Nat
  | .nm i => [i]
  | .tp is => is
/-- only these slots differ -/
def SameOff (is : List Nat) (σ τ : St) : Prop := ∀ vs : List Nat, (∀ i ∈ is, i ∈ vs) → L2.wipe τ vs = L2.wipe σ vs
theorem wipe_set (σ : St) (i : Nat) (x : Option V) : ∀ vs : List Nat, L2.wipe (σ.set i x) vs = if i ∈ vs then L2.wipe σ vs else (L2.wipe σ vs).set i x
  | [] => by simp [L2.wipe]
  | v :: vs => by
    unfold L2.wipe
    rw [wipe_set σ i x vs]
    by_cases hv : i = v
    · subst hv
      rw [if_pos List.mem_cons_self]
      split
      · rfl
      · rw [List.set_set]
    · have e : (i ∈ v :: vs) ↔ i ∈ vs := by simp [hv]
      by_cases hm : i ∈ vs
      · rw [if_pos hm, if_pos (e.mpr hm)]
      · rw [if_neg hm, if_neg (fun z => hm (e.mp z)), List.set_comm _ _ hv]
theorem SameOff.set {σ τ : St} {i : Nat} {is : List Nat} {x : Option V} (h : SameOff is (σ.set i x) τ) : SameOff (i :: is) σ τ := fun vs hv => by
  rw [h vs fun j hj => hv j (List.mem_cons_of_mem _ hj), wipe_set, if_pos (hv i List.mem_cons_self)]
theorem SameOff.refl (σ : St) (is : List Nat) : SameOff is σ σ := fun _ _ => rfl
def tG (T : Tb) (t : Tg) : TG := fun v σ H Q => ∃ (c : Cf) (σw : Sl) (w : W), c.H = H ∧ MP.RelM T c ∧ RelS T c σw σ ∧ RelW T c w v ∧ match tgSem t w σw with
  | some σ' => ∀ τ, RelS T c σ' τ → SameOff t.slots σ τ → Q τ H
  | none => False
section
variable {X : Cx} {T : Tb} {Wx : WX}
theorem PG.imp' {tg : Expr} {t t' : TG} (h : PG X tg t) (k : ∀ v σ H Q, t' v σ H Q → t v σ H Q) : PG X tg t' := ⟨fun pins s σ H v u Q I r q => h.run pins s σ H v u Q I r (k v σ H Q q)⟩
theorem pg_nm {i : Nat} {x : Str} {pos : Pos} (hN : X.N.Nodup) (hi : X.N[i]? = some x) (hx : Loc X.env.scope x) (hf : X.fn x = true ∨ X.env.scope.names.lookup x = some .local) : PG X (.Name x pos) (tG T (.nm i)) := by
  refine PG.imp' (pg_name hN hi hx hf) fun v σ H Q h => ?_
  obtain ⟨c, σw, w, eH, R, S, r, q⟩ := h
  exact q _ (S.set i r) (SameOff.set (SameOff.refl _ _))
/-- the readings of names in a row -/
def gNms : List Nat → TGs
  | [] => gNil
  | i :: is => gCons (gName i) (gNms is)
theorem gNms_ok {c : Cf} {Q : St → Hp → Prop} {H : Hp} : ∀ (is : List Nat) (ws : List W) (vs : List V) (σw : Sl) (σ : St) (σ' : Sl), RelWs T c ws vs → RelS T c σw σ → setAll is ws σw = some σ' → (∀ τ, RelS T c σ' τ → SameOff is σ τ → Q τ H) → gNms is vs σ H Q
  | [], [], vs, σw, σ, σ', r, S, e, q => by
    cases (show vs = [] from r)
    cases e
    exact ⟨rfl, q _ S (SameOff.refl _ _)⟩
  | i :: is, w :: ws, vs, σw, σ, σ', r, S, e, q => by
    obtain ⟨v, u, e1, e2, e3⟩ := (show ∃ v r, _ from r)
    subst e1
    exact ⟨v, u, rfl, gNms_ok is ws u _ _ σ' e3 (S.set i e2) e fun τ a b => q τ a b.set⟩
  | [], _ :: _, _, _, _, _, _, _, e, _ => by cases e
  | _ :: _, [], _, _, _, _, _, _, e, _ => by cases e
theorem setAll_len : ∀ (is : List Nat) (ws : List W) (σ σ' : Sl), setAll is ws σ = some σ' → is.length = ws.length
  | [], [], _, _, _ => rfl
  | i :: is, w :: ws, σ, σ', e => congrArg (· + 1) (setAll_len is ws _ σ' e)
  | [], _ :: _, _, _, e => by cases e
  | _ :: _, [], _, _, e => by cases e
theorem pg_tp {is : List Nat} {es : List Expr} {k : Nat} {pos : Pos} (hK : X.K = T.K) (hc : X.calm = true) (h : PGs X es (gNms is)) (hn : (assignEach es X.env).length = is.length) (hst : (assignEach es X.env).findIdx? (·.1) = none) : PG X (.Tuple es k pos) (tG T (.tp is)) := by
  refine PG.imp' (pg_tup (n := is.length) hc h hn hst) fun v σ H Q h => ?_
  obtain ⟨c, σw, w, eH, R, S, r, q⟩ := h
  subst eH
  cases w with
  | tup ws =>
    obtain ⟨a, vs, e1, e2, e3⟩ := (show ∃ a vs, _ from r)
    subst e1
    simp only [tgSem] at q
    split at q
    · rename_i σ' hs
      exact ⟨a, vs, rfl, .inl (.inl e2), by rw [← e3.length]; exact (setAll_len _ _ _ _ hs).symm, gNms_ok is ws vs σw σ σ' e3 S hs q⟩
    · exact q.elim
  | _ => simp only [tgSem] at q

/-! ### a list that is being made -/
/-- one more item of the list at D, which nobody holds -/
def Cf.grow (c : Cf) (D : Addr) (acc : List V) : Cf := ⟨c.ρ, c.m, upd c.H D (.lst acc), c.res⟩
section
variable {c : Cf} {D : Addr} {acc : List V}
theorem grow_alive {a : Addr} : Alive (c.grow D acc) a ↔ Alive c a := Iff.rfl
theorem grow_own {a : Addr} : Own (c.grow D acc) a ↔ Own c a := Iff.rfl
mutual
theorem RelW.grow (hD : D ∈ c.res) {old : List V} (hl : c.H D = some (.lst old)) : ∀ {w : W} {v : V}, RelW T c w v → RelW T (c.grow D acc) w v
  | .non, _, e => e
  | .bl _, _, e => e
  | .int _, _, e => e
  | .str _, _, e => e
  | .tup xs, _, e => by
    obtain ⟨a, vs, e1, e2, e3⟩ := (show ∃ a vs, _ from e)
    have ne : a ≠ D := fun z => by rw [z, hl] at e2; cases e2
    exact ⟨a, vs, e1, by show upd c.H D _ a = _; rw [upd_ne ne]; exact e2, RelWs.grow hD hl e3⟩
  | .lst xs, _, e => by
    obtain ⟨a, vs, e1, e2, n, e3⟩ := (show ∃ a vs, _ from e)
    have ne : a ≠ D := fun z => n (.inr (z ▸ hD))
    exact ⟨a, vs, e1, by show upd c.H D _ a = _; rw [upd_ne ne]; exact e2, n, RelWs.grow hD hl e3⟩
  | .kt xs, _, e => by
    obtain ⟨a, vs, e1, e2, e3⟩ := (show ∃ a vs, _ from e)
    refine ⟨a, vs, e1, ?_, RelWs.grow hD hl e3⟩
    have ne : ∀ {u : HO}, (∀ xs, u ≠ .lst xs) → c.H a = some u → a ≠ D := fun {u} hu h z => by
      rw [z, hl] at h
      exact hu old (Option.some.inj h).symm
    rcases e2 with (r | ⟨o, r⟩) | s
    · exact .inl (.inl (by show upd c.H D _ a = _; rw [upd_ne (ne (u := .tup vs) (fun _ z => nomatch z) r)]; exact r))
    · exact .inl (.inr ⟨o, by show upd c.H D _ a = _; rw [upd_ne (ne (u := .frz o (.tup vs)) (fun _ z => nomatch z) r)]; exact r⟩)
    · exact .inr s
  | .kl xs, _, e => by
    obtain ⟨a, vs, e1, ⟨o, e2⟩, e3⟩ := (show ∃ a vs, _ from e)
    have ne : a ≠ D := fun z => by rw [z, hl] at e2; cases e2
    exact ⟨a, vs, e1, ⟨o, by show upd c.H D _ a = _; rw [upd_ne ne]; exact e2⟩, RelWs.grow hD hl e3⟩
  | .ref i, _, e => e
  | .fn _, _, e => e
  | .kd _, _, e => e
theorem RelWs.grow (hD : D ∈ c.res) {old : List V} (hl : c.H D = some (.lst old)) : ∀ {xs : List W} {vs : List V}, RelWs T c xs vs → RelWs T (c.grow D acc) xs vs
  | [], _, e => e
  | x :: xs, _, e => by
    obtain ⟨v, r, e1, e2, e3⟩ := (show ∃ v r, _ from e)
    exact ⟨v, r, e1, RelW.grow hD hl e2, RelWs.grow hD hl e3⟩
end
theorem RelM.grow (R : MP.RelM T c) (hD : D ∈ c.res) {old : List V} (hl : c.H D = some (.lst old)) : MP.RelM T (c.grow D acc) := by
  have ne : ∀ a ∈ c.ρ, a ≠ D := fun a ha z => R.resN D hD (z ▸ ha)
  refine ⟨R.len, R.nd, fun a ha => ?_, fun a ha => ?_, R.resN, fun i o a e1 e2 => ?_⟩
  · obtain ⟨o, e⟩ := R.has a ha
    exact ⟨o, by show upd c.H D _ a = _; rw [upd_ne (ne a ha)]; exact e⟩
  · by_cases z : a = D
    · subst z; exact ⟨_, upd_same⟩
    · obtain ⟨o, e⟩ := R.resH a ha
      exact ⟨o, by show upd c.H D _ a = _; rw [upd_ne z]; exact e⟩
  · have q := R.obj i o a e1 e2
    have na := ne a (List.mem_of_getElem? e2)
    have at_ : ∀ {u : HO}, c.H a = some u → (c.grow D acc).H a = some u := fun {u} h => by
      show upd c.H D _ a = _
      rw [upd_ne na]; exact h
    cases o with
    | lst xs => obtain ⟨vs, h1, h2⟩ := q; exact ⟨vs, at_ h1, h2.grow hD hl⟩
    | dK xs => obtain ⟨vs, h1, h2⟩ := q; exact ⟨vs, at_ h1, Paired.mp h2 fun _ _ z => ⟨z.1, z.2.grow hD hl⟩⟩
    | dT xs => obtain ⟨vs, h1, h2⟩ := q; exact ⟨vs, at_ h1, Paired.mp h2 fun _ _ z => ⟨z.1, z.2.grow hD hl⟩⟩
    | ins k fs => obtain ⟨dx, gs, h1, h2⟩ := q; exact ⟨dx, gs, at_ h1, Paired.mp h2 fun _ _ z => ⟨z.1, z.2.grow hD hl⟩⟩
theorem RelS.grow {σw : Sl} {σ : St} (S : RelS T c σw σ) (hD : D ∈ c.res) {old : List V} (hl : c.H D = some (.lst old)) : RelS T (c.grow D acc) σw σ :=
  ⟨S.len, fun i w e => let ⟨v, e1, e2⟩ := S.at_ i w e; ⟨v, e1, e2.grow hD hl⟩⟩
/-- a new list that is being made -/
def Cf.open_ (c : Cf) (D : Addr) : Cf := ⟨c.ρ, c.m, upd c.H D (.lst []), D :: c.res⟩
theorem RelM.extOpen (R : MP.RelM T c) (hD : c.H D = none) : Ext c (c.open_ D) := by
  have at_ : ∀ b o, c.H b = some o → upd c.H D (.lst []) b = some o := fun b o e => by rw [upd_ne (ne_of_none e hD)]; exact e
  exact ⟨fun b o e => ⟨o, at_ b o e⟩, ⟨[D], rfl, fun a ha => by
    have : a = D := by simpa using ha
    rw [this]; exact hD⟩, ⟨[], by simp [Cf.open_]⟩, fun b o e n => ⟨at_ b o e, n⟩⟩
theorem RelM.open_ (R : MP.RelM T c) (hD : c.H D = none) : MP.RelM T (c.open_ D) := by
  have x := R.extOpen hD
  have at_ : ∀ b o, c.H b = some o → upd c.H D (.lst []) b = some o := fun b o e => by rw [upd_ne (ne_of_none e hD)]; exact e
  refine ⟨R.len, R.nd, fun a ha => ?_, fun a ha => ?_, fun a ha hm => ?_, fun i o a e1 e2 => ?_⟩
  · obtain ⟨o, e⟩ := R.has a ha
    exact ⟨o, at_ a o e⟩
  · have ha : a ∈ D :: c.res := ha
    rcases List.mem_cons.mp ha with rfl | ha
    · exact ⟨_, upd_same⟩
    · obtain ⟨o, e⟩ := R.resH a ha
      exact ⟨o, at_ a _ e⟩
  · have ha : a ∈ D :: c.res := ha
    rcases List.mem_cons.mp ha with rfl | ha
    · exact R.fresh hD hm
    · exact R.resN a ha hm
  · refine (R.obj i o a e1 e2).of R x ?_
    obtain ⟨q, e⟩ := R.has a (List.mem_of_getElem? e2)
    show upd c.H D (.lst []) a = _
    rw [at_ a q e, e]
end
mutual
/-- the same heap, other places alive or being made -/
theorem RelW.conv {c d : Cf} (hρ : ∀ (i : Nat) a, c.ρ[i]? = some a → d.ρ[i]? = some a) (hH : d.H = c.H) (ho : ∀ a o, c.H a = some o → ¬ Own c a → ¬ Own d a) : ∀ {w : W} {v : V}, RelW T c w v → RelW T d w v
  | .non, _, e => e
  | .bl _, _, e => e
  | .int _, _, e => e
  | .str _, _, e => e
  | .tup xs, _, e => let ⟨a, vs, e1, e2, e3⟩ := (show ∃ a vs, _ from e); ⟨a, vs, e1, by rw [hH]; exact e2, RelWs.conv hρ hH ho e3⟩
  | .lst xs, _, e => let ⟨a, vs, e1, e2, n, e3⟩ := (show ∃ a vs, _ from e); ⟨a, vs, e1, by rw [hH]; exact e2, ho a _ e2 n, RelWs.conv hρ hH ho e3⟩
  | .kt xs, _, e => let ⟨a, vs, e1, e2, e3⟩ := (show ∃ a vs, _ from e); ⟨a, vs, e1, by rw [hH]; exact e2, RelWs.conv hρ hH ho e3⟩
  | .kl xs, _, e => let ⟨a, vs, e1, e2, e3⟩ := (show ∃ a vs, _ from e); ⟨a, vs, e1, by rw [hH]; exact e2, RelWs.conv hρ hH ho e3⟩
  | .ref i, _, e => let ⟨a, e1, e2⟩ := (show ∃ a, _ from e); ⟨a, hρ i a e1, e2⟩
  | .fn _, _, e => e
  | .kd _, _, e => e
theorem RelWs.conv {c d : Cf} (hρ : ∀ (i : Nat) a, c.ρ[i]? = some a → d.ρ[i]? = some a) (hH : d.H = c.H) (ho : ∀ a o, c.H a = some o → ¬ Own c a → ¬ Own d a) : ∀ {xs : List W} {vs : List V}, RelWs T c xs vs → RelWs T d xs vs
  | [], _, e => e
  | x :: xs, _, e => let ⟨v, r, e1, e2, e3⟩ := (show ∃ v r, _ from e); ⟨v, r, e1, RelW.conv hρ hH ho e2, RelWs.conv hρ hH ho e3⟩
end
theorem RelO.conv {c d : Cf} (hρ : ∀ (i : Nat) a, c.ρ[i]? = some a → d.ρ[i]? = some a) (hH : d.H = c.H) (ho : ∀ a o, c.H a = some o → ¬ Own c a → ¬ Own d a) {a : Addr} {o : O} (q : RelO T c a o) : RelO T d a o := by
  cases o with
  | lst xs => obtain ⟨vs, h1, h2⟩ := q; exact ⟨vs, by rw [hH]; exact h1, h2.conv hρ hH ho⟩
  | dK xs => obtain ⟨vs, h1, h2⟩ := q; exact ⟨vs, by rw [hH]; exact h1, Paired.mp h2 fun _ _ z => ⟨z.1, z.2.conv hρ hH ho⟩⟩
  | dT xs => obtain ⟨vs, h1, h2⟩ := q; exact ⟨vs, by rw [hH]; exact h1, Paired.mp h2 fun _ _ z => ⟨z.1, z.2.conv hρ hH ho⟩⟩
  | ins k fs => obtain ⟨dx, gs, h1, h2⟩ := q; exact ⟨dx, gs, by rw [hH]; exact h1, Paired.mp h2 fun _ _ z => ⟨z.1, z.2.conv hρ hH ho⟩⟩

/-! ### comprehensions -/
def wipeW (σ : Sl) : List Nat → Sl
  | [] => σ
  | v :: vs => (wipeW σ vs).set v none
theorem RelS.wipes {c : Cf} {σw : Sl} {σ : St} (S : RelS T c σw σ) : ∀ vs : List Nat, RelS T c (wipeW σw vs) (L2.wipe σ vs)
  | [] => S
  | v :: vs => (S.wipes vs).wipe v none
/-- what raises is not carried through -/
def calm {α : Type} : Res α → Res α
  | .ok a m => .ok a m
  | _ => .stuck
structure Cp where
  tg : Tg
  cond : Sl → M → Res Bool
  elt : Sl → M → Res W
  vs : List Nat
/-- one turn: none: left out -/
def cpTurn (p : Cp) (σ : Sl) (w : W) (m : M) : Res (Option W) :=
  match tgSem p.tg w (wipeW σ p.vs) with
  | none => .stuck
  | some σ2 => (calm (p.cond σ2 m)).bind fun b m1 => if b = true then (calm (p.elt σ2 m1)).bind fun x m2 => .ok (some x) m2 else .ok none m1
def cpItems (p : Cp) (σ : Sl) : List W → M → Res (List W)
  | [], m => .ok [] m
  | w :: ws, m => (cpTurn p σ w m).bind fun r m1 => (cpItems p σ ws m1).bind fun xs m2 => .ok (r.toList ++ xs) m2
def cpLive (p : Cp) (σ : Sl) (i : Nat) : Nat → Nat → M → Res (List W)
  | 0, _, _ => .stuck
  | n + 1, j, m => match m[i]? with
    | some (some (.lst xs)) => match xs[j]? with
      | none => .ok [] m
      | some w => (cpTurn p σ w m).bind fun r m1 => (cpLive p σ i n (j + 1) m1).bind fun xs m2 => .ok (r.toList ++ xs) m2
    | _ => .stuck
def cpAll (F : Nat) (p : Cp) (σ : Sl) (s : Src) (m : M) : Res (List W) :=
  match s with
  | .items ws => cpItems p σ ws m
  | .live i => cpLive p σ i F 0 m
def eComp (F : Nat) (frz : Bool) (src : Sl → M → Res Src) (p : Cp) : Sl → M → Res W := fun σ m => (src σ m).bind fun s m1 => (cpAll F p σ s m1).bind (mkLst frz)
/-- the config while the list at D is made: c1 as the walk began -/
structure Mid (T : Tb) (c1 : Cf) (D : Addr) (done : List W) (c : Cf) (acc : List V) : Prop where
  ext : Ext c1 c
  res : c.res = D :: c1.res
  rm : MP.RelM T c
  at_ : c.H D = some (.lst acc)
  rel : RelWs T c done acc
theorem Mid.start {c1 : Cf} (R : MP.RelM T c1) {D : Addr} (hD : c1.H D = none) : Mid T c1 D [] (c1.open_ D) [] := ⟨R.extOpen hD, rfl, R.open_ hD, upd_same, RelWs.nil⟩
theorem Mid.step {c1 c d : Cf} {D : Addr} {done : List W} {acc : List V} (h : Mid T c1 D done c acc) (x : Ext c d) (er : d.res = c.res) (Rd : MP.RelM T d) : Mid T c1 D done d acc := by
  have nD : ¬ Alive c D := fun z => h.rm.resN D (by rw [h.res]; exact List.mem_cons_self) z.mem
  exact ⟨h.ext.trans x, er.trans h.res, Rd, (x.stay D _ h.at_ nD).1, h.rel.ext h.rm x⟩
theorem Mid.push {c1 c : Cf} {D : Addr} {done : List W} {acc : List V} {w : W} {v : V} (h : Mid T c1 D done c acc) (hD : c1.H D = none) (r : RelW T c w v) : Mid T c1 D (done ++ [w]) (c.grow D (acc ++ [v])) (acc ++ [v]) := by
  have mD : D ∈ c.res := by rw [h.res]; exact List.mem_cons_self
  refine ⟨⟨fun a o e => ?_, ?_, h.ext.pre, fun a o e n => ?_⟩, h.res, h.rm.grow mD h.at_, upd_same, ?_⟩
  · obtain ⟨u, q⟩ := h.ext.dom a o e
    have ne : a ≠ D := fun z => by rw [z, hD] at e; cases e
    exact ⟨u, by show upd c.H D _ a = _; rw [upd_ne ne]; exact q⟩
  · exact h.ext.res
  · have ne : a ≠ D := fun z => by rw [z, hD] at e; cases e
    obtain ⟨q1, q2⟩ := h.ext.stay a o e n
    exact ⟨by show upd c.H D _ a = _; rw [upd_ne ne]; exact q1, q2⟩
  · exact (h.rel.grow mD h.at_).append (RelWs.cons (r.grow mD h.at_) RelWs.nil)
/-- the list is done -/
theorem Mid.end_ {c1 c : Cf} {D : Addr} {done : List W} {acc : List V} {frz : Bool} {σ : St} {Q : VK} (h : Mid T c1 D done c acc) (R1 : MP.RelM T c1) (hD : c1.H D = none) (w : Wp T Wx σ (RelW T) c1 (mkLst frz done c.m) Q) : Q (.ref D) c.H := by
  have mD : D ∈ c.res := by rw [h.res]; exact List.mem_cons_self
  have nD : D ∉ c.ρ := h.rm.resN D mD
  have nr : D ∉ c1.res := fun z => by
    obtain ⟨o, e⟩ := R1.resH D z
    rw [hD] at e; cases e
  have inr : ∀ a, a ∈ c1.res → a ∈ c.res := fun a ha => by rw [h.res]; exact List.mem_cons_of_mem _ ha
  unfold mkLst at w
  split at w
  · cases frz with
    | true =>
      have hρ : ∀ (i : Nat) a, c.ρ[i]? = some a → (⟨c.ρ, c.m, c.H, c1.res⟩ : Cf).ρ[i]? = some a := fun _ _ e => e
      have ho : ∀ a o, c.H a = some o → ¬ Own c a → ¬ Own (⟨c.ρ, c.m, c.H, c1.res⟩ : Cf) a := fun a o _ n z => n (z.elim .inl fun y => .inr (inr a y))
      have rm : MP.RelM T ⟨c.ρ, c.m, c.H, c1.res⟩ := ⟨h.rm.len, h.rm.nd, h.rm.has, fun a ha => h.rm.resH a (inr a ha), fun a ha => h.rm.resN a (inr a ha), fun i o a e1 e2 => RelO.conv hρ rfl ho (h.rm.obj i o a e1 e2)⟩
      exact w c.ρ c.H (.ref D) ⟨h.ext.dom, ⟨[], rfl, by simp⟩, h.ext.pre, h.ext.stay⟩ rm ⟨D, acc, rfl, h.at_, fun z => z.elim (fun y => nD y.mem) nr, h.rel.conv hρ rfl ho⟩
    | false =>
      have al : ∀ a, Alive (⟨c.ρ ++ [D], c.m ++ [some (.lst done)], c.H, c1.res⟩ : Cf) a → a = D ∨ Alive c a := by
        rintro a ⟨i, o', e1, e2⟩
        have e1 : (c.ρ ++ [D])[i]? = some a := e1
        have e2 : (c.m ++ [some (O.lst done)])[i]? = some (some o') := e2
        by_cases hi : i < c.ρ.length
        · rw [List.getElem?_append_left hi] at e1
          rw [List.getElem?_append_left (by rw [← h.rm.len]; exact hi)] at e2
          exact .inr ⟨i, o', e1, e2⟩
        · rw [List.getElem?_append_right (by omega)] at e1
          have : a ∈ [D] := List.mem_of_getElem? e1
          exact .inl (by simpa using this)
      have hρ : ∀ (i : Nat) a, c.ρ[i]? = some a → (⟨c.ρ ++ [D], c.m ++ [some (.lst done)], c.H, c1.res⟩ : Cf).ρ[i]? = some a := fun i a e => by
        show (c.ρ ++ [D])[i]? = some a
        rw [List.getElem?_append_left (List.getElem?_eq_some_iff.mp e).1]; exact e
      have ho : ∀ a o, c.H a = some o → ¬ Own c a → ¬ Own (⟨c.ρ ++ [D], c.m ++ [some (.lst done)], c.H, c1.res⟩ : Cf) a := fun a o _ n z => by
        rcases z with z | z
        · rcases al a z with y | y
          · exact n (.inr (y ▸ mD))
          · exact n (.inl y)
        · exact n (.inr (inr a z))
      have ext : Ext c1 ⟨c.ρ ++ [D], c.m ++ [some (.lst done)], c.H, c1.res⟩ := by
        obtain ⟨more, hm⟩ := h.ext.pre
        refine ⟨h.ext.dom, ⟨[], rfl, by simp⟩, ⟨more ++ [D], by show c.ρ ++ [D] = _; rw [hm, List.append_assoc]⟩, fun a o e n => ?_⟩
        obtain ⟨q1, q2⟩ := h.ext.stay a o e n
        refine ⟨q1, fun z => ?_⟩
        rcases al a z with y | y
        · rw [y, hD] at e; cases e
        · exact q2 y
      have rm : MP.RelM T ⟨c.ρ ++ [D], c.m ++ [some (.lst done)], c.H, c1.res⟩ := by
        refine ⟨by show (c.ρ ++ [D]).length = (c.m ++ [some (O.lst done)]).length; simp [h.rm.len], ?_, fun a ha => ?_, fun a ha => h.rm.resH a (inr a ha), fun a ha hm => ?_, fun i o a e1 e2 => ?_⟩
        · show (c.ρ ++ [D]).Nodup
          rw [List.nodup_append]
          refine ⟨h.rm.nd, by simp, fun x hx y hy => ?_⟩
          have : y = D := by simpa using hy
          subst this
          exact fun z => nD (z ▸ hx)
        · have ha : a ∈ c.ρ ++ [D] := ha
          rcases List.mem_append.mp ha with ha | ha
          · exact h.rm.has a ha
          · have : a = D := by simpa using ha
            subst this
            exact ⟨_, h.at_⟩
        · have hm : a ∈ c.ρ ++ [D] := hm
          rcases List.mem_append.mp hm with hm | hm
          · exact h.rm.resN a (inr a ha) hm
          · have : a = D := by simpa using hm
            exact nr (this ▸ ha)
        · have e1 : (c.m ++ [some (O.lst done)])[i]? = some (some o) := e1
          have e2 : (c.ρ ++ [D])[i]? = some a := e2
          by_cases hi : i < c.ρ.length
          · rw [List.getElem?_append_left hi] at e2
            rw [List.getElem?_append_left (by rw [← h.rm.len]; exact hi)] at e1
            exact RelO.conv hρ rfl ho (h.rm.obj i o a e1 e2)
          · rw [List.getElem?_append_right (by omega)] at e2
            rw [List.getElem?_append_right (by rw [← h.rm.len]; omega)] at e1
            have h1 : a ∈ [D] := List.mem_of_getElem? e2
            have h2 : some o ∈ [some (O.lst done)] := List.mem_of_getElem? e1
            have h1 : a = D := by simpa using h1
            have h2 : o = .lst done := by simpa using h2
            subst h1 h2
            exact ⟨acc, h.at_, h.rel.conv hρ rfl ho⟩
      exact w (c.ρ ++ [D]) c.H (.ref D) ext rm ⟨D, by show (c.ρ ++ [D])[c.m.length]? = some D; rw [← h.rm.len]; simp, rfl⟩
  · exact w.elim
theorem calm_ok {α : Type} {r : Res α} {a : α} {m : M} (h : calm r = .ok a m) : r = .ok a m := by
  cases r with
  | ok b n => exact h
  | exc k fs n => cases h
  | stuck => cases h
/-- one turn of a comprehension: what the layer asks -/
theorem turn_ok {p : Cp} {c1 c : Cf} {D : Addr} {done : List W} {acc : List V} {σw : Sl} {σ : St} {w : W} {x : V} {Nx : Hp → Prop} (hD : c1.H D = none) (md : Mid T c1 D done c acc) (S : RelS T c σw σ) (rx : RelW T c w x) (hv : ∀ i ∈ p.tg.slots, i ∈ p.vs)
    (h : ∃ (r : Option W) (m : M), cpTurn p σw w c.m = .ok r m ∧ (∀ y, r = some y → acc.length < sizeLine) ∧ ∀ c' acc', c'.m = m → Mid T c1 D (done ++ r.toList) c' acc' → Nx c'.H) :
    tG T p.tg x (L2.wipe σ p.vs) c.H fun σ2 H2 => L2.wipe σ2 p.vs = L2.wipe σ p.vs ∧ tB T noX p.cond σ2 H2 fun b H3 =>
      if b = true then tE T noX p.elt σ2 H3 fun y H4 => ∃ ac, H4 D = some (.lst ac) ∧ ac.length < sizeLine ∧ Nx (upd H4 D (.lst (ac ++ [y]))) else Nx H3 := by
  obtain ⟨r, m, ht, hz, hN⟩ := h
  refine ⟨c, wipeW σw p.vs, w, rfl, md.rm, S.wipes p.vs, rx, ?_⟩
  unfold cpTurn at ht
  split at ht
  · cases ht
  · rename_i σ2 hs
    rw [hs]
    intro τ Sτ so
    have ww : ∀ (vs : List Nat) (s : St), L2.wipe (L2.wipe s vs) vs = L2.wipe s vs := fun vs s => by
      have g : ∀ us : List Nat, (∀ u ∈ us, u ∈ vs) → L2.wipe (L2.wipe s us) vs = L2.wipe s vs := by
        intro us
        induction us with
        | nil => intro _; rfl
        | cons u us ih =>
          intro hu
          show L2.wipe ((L2.wipe s us).set u none) vs = _
          rw [wipe_set, if_pos (hu u List.mem_cons_self), ih fun v hv => hu v (List.mem_cons_of_mem _ hv)]
      exact g vs fun _ h => h
    refine ⟨by rw [so p.vs hv, ww], c, σ2, rfl, md.rm, Sτ, ?_⟩
    cases hc : p.cond σ2 c.m with
    | exc k fs n => rw [hc] at ht; cases ht
    | stuck => rw [hc] at ht; cases ht
    | ok b n =>
      rw [hc] at ht
      have ht : (if b = true then (calm (p.elt σ2 n)).bind fun x m2 => Res.ok (some x) m2 else Res.ok none n) = Res.ok r m := ht
      intro ρ H b' e1 e2 e3
      subst e3
      have md2 : Mid T c1 D done ⟨ρ, n, H, c.res⟩ acc := md.step e1 rfl e2
      cases b with
      | false =>
        simp only [Bool.false_eq_true, if_false] at ht ⊢
        injection ht with h1 h2
        exact hN ⟨ρ, n, H, c.res⟩ acc h2 (by rw [← h1]; simpa using md2)
      | true =>
        simp only [if_true] at ht ⊢
        refine ⟨⟨ρ, n, H, c.res⟩, σ2, rfl, e2, Sτ.ext md.rm e1, ?_⟩
        show Wp T noX τ (RelW T) _ (p.elt σ2 n) _
        cases he : p.elt σ2 n with
        | exc k fs n2 => rw [he] at ht; cases ht
        | stuck => rw [he] at ht; cases ht
        | ok y n2 =>
          rw [he] at ht
          injection (show Res.ok (some y) n2 = Res.ok r m from ht) with h1 h2
          intro ρ3 H3 yv f1 f2 f3
          have md3 : Mid T c1 D done ⟨ρ3, n2, H3, c.res⟩ acc := md2.step f1 rfl f2
          exact ⟨acc, md3.at_, hz y h1.symm, hN (Cf.grow ⟨ρ3, n2, H3, c.res⟩ D (acc ++ [yv])) (acc ++ [yv]) h2 (by rw [← h1]; exact md3.push hD f3)⟩
theorem cpTurn_noexc (p : Cp) (σ : Sl) (w : W) (m : M) : NoExc (cpTurn p σ w m) := by
  intro k fs m' h
  unfold cpTurn at h
  split at h
  · cases h
  · cases hc : p.cond _ m with
    | exc k fs n => rw [hc] at h; cases h
    | stuck => rw [hc] at h; cases h
    | ok b n =>
      rw [hc] at h
      cases b with
      | false => cases h
      | true =>
        have h : ((calm (p.elt _ n)).bind fun x m2 => Res.ok (some x) m2) = Res.exc k fs m' := h
        cases he : p.elt _ n with
        | exc k fs n2 => rw [he] at h; cases h
        | stuck => rw [he] at h; cases h
        | ok y n2 => rw [he] at h; cases h
theorem cpItems_noexc (p : Cp) (σ : Sl) : ∀ (ws : List W) (m : M), NoExc (cpItems p σ ws m)
  | [], m => by intro k fs m' h; cases h
  | w :: ws, m => by
    intro k fs m' h
    simp only [cpItems] at h
    cases ht : cpTurn p σ w m with
    | exc k fs n => exact cpTurn_noexc p σ w m k fs n ht
    | stuck => rw [ht] at h; cases h
    | ok r n =>
      rw [ht] at h
      have h : ((cpItems p σ ws n).bind fun xs m2 => Res.ok (r.toList ++ xs) m2) = Res.exc k fs m' := h
      cases hr : cpItems p σ ws n with
      | exc k fs n2 => exact cpItems_noexc p σ ws n k fs n2 hr
      | stuck => rw [hr] at h; cases h
      | ok y n2 => rw [hr] at h; cases h
theorem cpLive_noexc (p : Cp) (σ : Sl) (i : Nat) : ∀ (f j : Nat) (m : M), NoExc (cpLive p σ i f j m)
  | 0, j, m => by intro k fs m' h; cases h
  | f + 1, j, m => by
    intro k fs m' h
    unfold cpLive at h
    split at h
    · split at h
      · cases h
      · rename_i w _
        cases ht : cpTurn p σ w m with
        | exc k fs n => exact cpTurn_noexc p σ w m k fs n ht
        | stuck => rw [ht] at h; cases h
        | ok r n =>
          rw [ht] at h
          have h : ((cpLive p σ i f (j + 1) n).bind fun xs m2 => Res.ok (r.toList ++ xs) m2) = Res.exc k fs m' := h
          cases hr : cpLive p σ i f (j + 1) n with
          | exc k fs n2 => exact cpLive_noexc p σ i f (j + 1) n k fs n2 hr
          | stuck => rw [hr] at h; cases h
          | ok y n2 => rw [hr] at h; cases h
    · cases h
theorem comp_tLc {F : Nat} {frz : Bool} {src : Sl → M → Res Src} {p : Cp} (hv : ∀ i ∈ p.tg.slots, i ∈ p.vs) (σ : St) (H : Hp) (Q : VK) (h : tE T Wx (eComp F frz src p) σ H Q) :
    tLc (tI T Wx src) (tG T p.tg) (tB T noX p.cond) (tE T noX p.elt) p.vs σ H Q := by
  obtain ⟨c, σw, eH, R, S, w⟩ := h
  refine ⟨c, σw, eH, R, S, (Wp.bind (R := fun c' s J => SrcOk T c' J s) w).mono ?_⟩
  rintro J H1 ⟨c1, s, e1, ext, R1, sok, w1⟩ D hD
  subst e1
  have S1 := S.ext R ext
  have big : ∀ {xs : List W} {m : M}, Wp T Wx σ (RelW T) c1 (mkLst frz xs m) Q → xs.length ≤ sizeLine := fun {xs m} w => by
    unfold mkLst at w
    split at w
    · assumption
    · exact w.elim
  cases s with
  | items ws =>
    obtain ⟨hgo, hstop, hyld⟩ := sok
    refine ⟨fun i m H => m = ws.length - i ∧ i ≤ ws.length ∧ ∃ c done acc, c.H = H ∧ Mid T c1 D done c acc ∧ Wp T Wx σ (RelW T) c1 ((cpItems p σw (ws.drop i) c.m).bind fun xs m' => mkLst frz (done ++ xs) m') Q,
      ⟨ws.length, by simp, Nat.zero_le _, c1.open_ D, [], [], rfl, Mid.start R1 hD, w1⟩, ?_⟩
    rintro i m H ⟨rfl, hi, c, done, acc, rfl, md, wq⟩
    by_cases hlt : i < ws.length
    · refine .inr ⟨hgo i c md.ext.weak md.rm hlt, fun H' => ∃ m', m' < ws.length - i ∧ m' = ws.length - (i + 1) ∧ i + 1 ≤ ws.length ∧ ∃ c done acc, c.H = H' ∧ Mid T c1 D done c acc ∧ Wp T Wx σ (RelW T) c1 ((cpItems p σw (ws.drop (i + 1)) c.m).bind fun xs m' => mkLst frz (done ++ xs) m') Q,
        fun H' ⟨m', a, b⟩ => ⟨m', a, b⟩, fun x H' y => ?_⟩
      have hw : ws[i]? = some ws[i] := List.getElem?_eq_getElem hlt
      obtain ⟨c', g1, g2, g3, g4, g5, g6⟩ := hyld i c _ x H' md.ext.weak md.rm hw y
      subst g1
      have md' := md.step g4 g3 g5
      have hd : ws.drop i = ws[i] :: ws.drop (i + 1) := List.drop_eq_getElem_cons hlt
      rw [hd, ← g2] at wq
      cases ht : cpTurn p σw ws[i] c'.m with
      | exc k fs n => exact (cpTurn_noexc _ _ _ _ k fs n ht).elim
      | stuck => simp only [cpItems, ht, Res.bind] at wq; exact wq.elim
      | ok r n =>
        simp only [cpItems, ht, Res.bind] at wq
        cases hr : cpItems p σw (ws.drop (i + 1)) n with
        | exc k fs n2 => exact (cpItems_noexc _ _ _ _ k fs n2 hr).elim
        | stuck => rw [hr] at wq; exact wq.elim
        | ok rs n2 =>
          rw [hr] at wq
          have wq : Wp T Wx σ (RelW T) c1 (mkLst frz (done ++ (r.toList ++ rs)) n2) Q := wq
          refine turn_ok hD md' (S1.ext R1 md'.ext) g6 hv ⟨r, n, ht, fun y ey => ?_, fun c2 acc2 em md2 => ⟨_, by omega, rfl, hlt, c2, _, acc2, rfl, md2, ?_⟩⟩
          · have z := big wq
            rw [← md'.rel.length]
            subst ey
            simp only [List.length_append, Option.toList, List.length_cons] at z
            omega
          · rw [em, hr]
            show Wp T Wx σ (RelW T) c1 (mkLst frz ((done ++ r.toList) ++ rs) n2) Q
            rw [List.append_assoc]; exact wq
    · have e : i = ws.length := by omega
      subst e
      rw [List.drop_length] at wq
      refine .inl ⟨hstop c md.ext.weak md.rm, md.end_ (frz := frz) (σ := σ) (Wx := Wx) R1 hD ?_⟩
      have wq : Wp T Wx σ (RelW T) c1 (mkLst frz (done ++ []) c.m) Q := wq
      rw [List.append_nil] at wq
      exact wq
  | live i =>
    obtain ⟨a, ea, eJ⟩ := sok
    subst eJ
    refine ⟨fun j m H => ∃ c done acc, c.H = H ∧ Mid T c1 D done c acc ∧ Wp T Wx σ (RelW T) c1 ((cpLive p σw i m j c.m).bind fun xs m' => mkLst frz (done ++ xs) m') Q,
      ⟨F, c1.open_ D, [], [], rfl, Mid.start R1 hD, w1⟩, ?_⟩
    rintro j m H ⟨c, done, acc, rfl, md, wq⟩
    cases m with
    | zero => exact wq.elim
    | succ f =>
      unfold cpLive at wq
      split at wq
      · rename_i xs hx
        have ea' := md.ext.at ea
        obtain ⟨vs, q1, q2⟩ := md.rm.obj i _ a hx ea'
        split at wq
        · rename_i hn
          have hl : xs.length ≤ j := List.getElem?_eq_none_iff.mp hn
          refine .inl ⟨⟨vs, .inl (.inl q1), by rw [← q2.length]; exact hl⟩, md.end_ (frz := frz) (σ := σ) (Wx := Wx) R1 hD ?_⟩
          have wq : Wp T Wx σ (RelW T) c1 (mkLst frz (done ++ []) c.m) Q := wq
          rw [List.append_nil] at wq
          exact wq
        · rename_i w hw
          obtain ⟨v, hv1, hv2⟩ := q2.get hw
          refine .inr ⟨⟨vs, v, .inl (.inl q1), hv1⟩, fun H' => ∃ m', m' < f + 1 ∧ ∃ c done acc, c.H = H' ∧ Mid T c1 D done c acc ∧ Wp T Wx σ (RelW T) c1 ((cpLive p σw i m' (j + 1) c.m).bind fun xs m' => mkLst frz (done ++ xs) m') Q,
            fun H' q => q, fun x H' y => ?_⟩
          obtain ⟨y1, y2⟩ := y
          subst y1
          have ev := y2 vs (.inl (.inl q1))
          rw [hv1] at ev
          cases ev
          cases ht : cpTurn p σw w c.m with
          | exc k fs n => exact (cpTurn_noexc _ _ _ _ k fs n ht).elim
          | stuck => rw [ht] at wq; exact wq.elim
          | ok r n =>
            rw [ht] at wq
            have wq : Wp T Wx σ (RelW T) c1 (((cpLive p σw i f (j + 1) n).bind fun xs m2 => Res.ok (r.toList ++ xs) m2).bind fun xs m' => mkLst frz (done ++ xs) m') Q := wq
            cases hr : cpLive p σw i f (j + 1) n with
            | exc k fs n2 => exact (cpLive_noexc _ _ _ _ _ _ k fs n2 hr).elim
            | stuck => rw [hr] at wq; exact wq.elim
            | ok rs n2 =>
              rw [hr] at wq
              have wq : Wp T Wx σ (RelW T) c1 (mkLst frz (done ++ (r.toList ++ rs)) n2) Q := wq
              refine turn_ok hD md (S1.ext R1 md.ext) hv2 hv ⟨r, n, ht, fun y ey => ?_, fun c2 acc2 em md2 => ⟨f, by omega, c2, _, acc2, rfl, md2, ?_⟩⟩
              · have z := big wq
                rw [← md.rel.length]
                subst ey
                simp only [List.length_append, Option.toList, List.length_cons] at z
                omega
              · rw [em, hr]
                show Wp T Wx σ (RelW T) c1 (mkLst frz ((done ++ r.toList) ++ rs) n2) Q
                rw [List.append_assoc]; exact wq
      · exact wq.elim
end
end MP
end

section
set_option maxHeartbeats 4000000
/-! MPStm: tests and statements. -/
namespace MP
open PySem PySem.Spec PyProof.Rows L2

section
variable {X : Cx} {T : Tb} {Wx : WX}
/-! ### tests -/
def asB (w : W) (m : M) : Res Bool := match w with
  | .bl b => .ok b m
  | _ => .stuck
/-- a value that is a truth -/
def tstB (r : Sl → M → Res W) : Sl → M → Res Bool := fun σ m => (r σ m).bind asB
/-- any value, by its truth -/
def asT (w : W) (m : M) : Res Bool := match truth m w with
  | some b => .ok b m
  | none => .stuck
def tst (r : Sl → M → Res W) : Sl → M → Res Bool := fun σ m => (r σ m).bind asT
def bAnd (r s : Sl → M → Res Bool) : Sl → M → Res Bool := fun σ m => (r σ m).bind fun b m1 => if b = true then s σ m1 else .ok false m1
def bOr (r s : Sl → M → Res Bool) : Sl → M → Res Bool := fun σ m => (r σ m).bind fun b m1 => if b = true then .ok true m1 else s σ m1
def bNot (r : Sl → M → Res Bool) : Sl → M → Res Bool := fun σ m => (r σ m).bind fun b m1 => .ok (!b) m1
theorem tst_truth {r : Sl → M → Res W} (σ : St) (H : Hp) (Q : Bool → Hp → Prop) (h : tB T Wx (tst r) σ H Q) : (tE T Wx r) σ H fun x H' => ∃ k, TruV T.K x H' k ∧ Q k H' := by
  obtain ⟨c, σw, eH, R, S, w⟩ := h
  refine ⟨c, σw, eH, R, S, (Wp.bind (R := RelW T) w).mono ?_⟩
  rintro x H1 ⟨d, wx, e1, ext, R1, rx, w1⟩
  unfold asT at w1
  split at w1
  · rename_i b hb
    exact ⟨b, e1 ▸ truth_rel R1 hb rx, e1 ▸ w1 d.ρ d.H b (Ext.refl d) R1 rfl⟩
  · exact w1.elim
theorem tstB_test {r : Sl → M → Res W} {t : TE} (ht : ∀ σ H Q, tE T Wx r σ H Q → t σ H Q) (σ : St) (H : Hp) (Q : Bool → Hp → Prop) (h : tB T Wx (tstB r) σ H Q) : tTest t σ H Q := by
  obtain ⟨c, σw, eH, R, S, w⟩ := h
  refine ht _ _ _ ⟨c, σw, eH, R, S, (Wp.bind (R := RelW T) w).mono ?_⟩
  rintro x H1 ⟨d, wx, e1, ext, R1, rx, w1⟩
  unfold asB at w1
  split at w1
  · cases rx
    exact ⟨_, rfl, e1 ▸ w1 d.ρ d.H _ (Ext.refl d) R1 rfl⟩
  · exact w1.elim
theorem bAnd_t {r s : Sl → M → Res Bool} (σ : St) (H : Hp) (Q : Bool → Hp → Prop) (h : tB T Wx (bAnd r s) σ H Q) : tAnd (tB T Wx r) (tB T Wx s) σ H Q := by
  obtain ⟨c, σw, eH, R, S, w⟩ := h
  refine ⟨c, σw, eH, R, S, (Wp.bind (R := fun _ a b => a = b) w).mono ?_⟩
  rintro x H1 ⟨d, b, e1, ext, R1, rx, w1⟩
  subst rx
  cases b with
  | true => simp only [if_true] at w1 ⊢; exact ⟨d, σw, e1, R1, S.ext R ext, w1⟩
  | false => simp only [Bool.false_eq_true, if_false] at w1 ⊢; exact e1 ▸ w1 d.ρ d.H _ (Ext.refl d) R1 rfl
theorem bOr_t {r s : Sl → M → Res Bool} (σ : St) (H : Hp) (Q : Bool → Hp → Prop) (h : tB T Wx (bOr r s) σ H Q) : tOr (tB T Wx r) (tB T Wx s) σ H Q := by
  obtain ⟨c, σw, eH, R, S, w⟩ := h
  refine ⟨c, σw, eH, R, S, (Wp.bind (R := fun _ a b => a = b) w).mono ?_⟩
  rintro x H1 ⟨d, b, e1, ext, R1, rx, w1⟩
  subst rx
  cases b with
  | true => simp only [if_true] at w1 ⊢; exact e1 ▸ w1 d.ρ d.H _ (Ext.refl d) R1 rfl
  | false => simp only [Bool.false_eq_true, if_false] at w1 ⊢; exact ⟨d, σw, e1, R1, S.ext R ext, w1⟩
theorem bNot_t {r : Sl → M → Res Bool} (σ : St) (H : Hp) (Q : Bool → Hp → Prop) (h : tB T Wx (bNot r) σ H Q) : tNot (tB T Wx r) σ H Q := by
  obtain ⟨c, σw, eH, R, S, w⟩ := h
  refine ⟨c, σw, eH, R, S, (Wp.bind (R := fun _ a b => a = b) w).mono ?_⟩
  rintro x H1 ⟨d, b, e1, ext, R1, rx, w1⟩
  subst rx
  exact e1 ▸ w1 d.ρ d.H _ (Ext.refl d) R1 rfl
/-! ### and, or, not, if as values -/
def eAnd (r s : Sl → M → Res W) : Sl → M → Res W := fun σ m => (r σ m).bind fun w m1 => match w with
  | .bl true => s σ m1
  | .bl false => .ok (.bl false) m1
  | _ => .stuck
def eOr (r s : Sl → M → Res W) : Sl → M → Res W := fun σ m => (r σ m).bind fun w m1 => match w with
  | .bl true => .ok (.bl true) m1
  | .bl false => s σ m1
  | _ => .stuck
def notSem (w : W) (m : M) : Res W := match truth m w with
  | some b => .ok (.bl (!b)) m
  | none => .stuck
def eNot (r : Sl → M → Res W) : Sl → M → Res W := fun σ m => (r σ m).bind fun w m1 => match w with
  | .bl b => .ok (.bl (!b)) m1
  | _ => .stuck
def eIf (c : Sl → M → Res Bool) (r s : Sl → M → Res W) : Sl → M → Res W := fun σ m => (c σ m).bind fun b m1 => if b = true then r σ m1 else s σ m1
def eChain (o1 o2 : COp) (ra rb rc : Sl → M → Res W) : Sl → M → Res W := fun σ m => (ra σ m).bind fun x m1 => (rb σ m1).bind fun y m2 => (cmpSem o1 x y m2).bind fun z m3 => match z with
  | .bl true => (rc σ m3).bind fun u m4 => cmpSem o2 y u m4
  | .bl false => .ok (.bl false) m3
  | _ => .stuck
theorem eAnd_t {r s : Sl → M → Res W} (σ : St) (H : Hp) (Q : VK) (h : tE T Wx (eAnd r s) σ H Q) : tAndV (tE T Wx r) (tE T Wx s) σ H Q := by
  obtain ⟨c, σw, eH, R, S, w⟩ := h
  refine ⟨c, σw, eH, R, S, (Wp.bind (R := RelW T) w).mono ?_⟩
  rintro x H1 ⟨d, wx, e1, ext, R1, rx, w1⟩
  split at w1
  · cases rx
    exact ⟨true, rfl, by simp only [if_true]; exact ⟨d, σw, e1, R1, S.ext R ext, w1⟩⟩
  · cases rx
    exact ⟨false, rfl, by simp only [Bool.false_eq_true, if_false]; exact e1 ▸ w1 d.ρ d.H _ (Ext.refl d) R1 rfl⟩
  · exact w1.elim
theorem eOr_t {r s : Sl → M → Res W} (σ : St) (H : Hp) (Q : VK) (h : tE T Wx (eOr r s) σ H Q) : tOrV (tE T Wx r) (tE T Wx s) σ H Q := by
  obtain ⟨c, σw, eH, R, S, w⟩ := h
  refine ⟨c, σw, eH, R, S, (Wp.bind (R := RelW T) w).mono ?_⟩
  rintro x H1 ⟨d, wx, e1, ext, R1, rx, w1⟩
  split at w1
  · cases rx
    exact ⟨true, rfl, by simp only [if_true]; exact e1 ▸ w1 d.ρ d.H _ (Ext.refl d) R1 rfl⟩
  · cases rx
    exact ⟨false, rfl, by simp only [Bool.false_eq_true, if_false]; exact ⟨d, σw, e1, R1, S.ext R ext, w1⟩⟩
  · exact w1.elim
theorem eNot_t {r : Sl → M → Res W} (σ : St) (H : Hp) (Q : VK) (h : tE T Wx (eNot r) σ H Q) : tNotV (tE T Wx r) σ H Q := by
  obtain ⟨c, σw, eH, R, S, w⟩ := h
  refine ⟨c, σw, eH, R, S, (Wp.bind (R := RelW T) w).mono ?_⟩
  rintro x H1 ⟨d, wx, e1, ext, R1, rx, w1⟩
  split at w1
  · cases rx
    exact ⟨_, rfl, e1 ▸ w1 d.ρ d.H _ (Ext.refl d) R1 rfl⟩
  · exact w1.elim
theorem eIf_t {b : Sl → M → Res Bool} {r s : Sl → M → Res W} (σ : St) (H : Hp) (Q : VK) (h : tE T Wx (eIf b r s) σ H Q) : tIf (tB T Wx b) (tE T Wx r) (tE T Wx s) σ H Q := by
  obtain ⟨c, σw, eH, R, S, w⟩ := h
  refine ⟨c, σw, eH, R, S, (Wp.bind (R := fun _ a b => a = b) w).mono ?_⟩
  rintro x H1 ⟨d, k, e1, ext, R1, rx, w1⟩
  subst rx
  cases k with
  | true => simp only [if_true] at w1 ⊢; exact ⟨d, σw, e1, R1, S.ext R ext, w1⟩
  | false => simp only [Bool.false_eq_true, if_false] at w1 ⊢; exact ⟨d, σw, e1, R1, S.ext R ext, w1⟩
theorem eChain_t {o1 o2 : COp} {ra rb rc : Sl → M → Res W} (σ : St) (H : Hp) (Q : VK) (h : tE T Wx (eChain o1 o2 ra rb rc) σ H Q) : tChain (rW2 T (cmpSem o1)) (rW2 T (cmpSem o2)) (tE T Wx ra) (tE T Wx rb) (tE T Wx rc) σ H Q := by
  obtain ⟨c, σw, eH, R, S, w⟩ := h
  refine ⟨c, σw, eH, R, S, (Wp.bind (R := RelW T) w).mono ?_⟩
  rintro x H1 ⟨d, wx, e1, ext, R1, rx, w1⟩
  refine ⟨d, σw, e1, R1, S.ext R ext, (Wp.bind (R := RelW T) w1).mono ?_⟩
  rintro y H2 ⟨d2, wy, e2, ext2, R2, ry, w2⟩
  have S2 := (S.ext R ext).ext R1 ext2
  refine ⟨d2, wx, wy, e2, R2, rx.ext R1 ext2, ry, ?_⟩
  have w2' := Wp.bind (R := RelW T) w2
  cases hz : cmpSem o1 wx wy d2.m with
  | exc k fs m => exact absurd hz (cmpSem_noexc _ _ _ _ k fs m)
  | stuck => rw [hz] at w2; exact w2.elim
  | ok z m =>
    rw [hz] at w2'
    refine fun ρ H z' f1 f2 f3 => ?_
    obtain ⟨d3, zz, g1, g2, g3, g4, g5⟩ := w2' ρ H z' f1 f2 f3
    split at g5
    · cases g4
      refine ⟨true, rfl, ?_⟩
      simp only [if_true]
      refine ⟨d3, σw, g1, g3, S2.ext R2 g2, (Wp.bind (R := RelW T) g5).mono ?_⟩
      rintro u H4 ⟨d4, wu, k1, k2, k3, k4, k5⟩
      exact ⟨d4, wy, wu, k1, k3, (ry.ext R2 g2).ext g3 k2, k4, k5.noX_of (cmpSem_noexc _ _ _ _)⟩
    · cases g4
      refine ⟨false, rfl, ?_⟩
      simp only [Bool.false_eq_true, if_false]
      exact g1 ▸ g5 d3.ρ d3.H _ (Ext.refl d3) g3 rfl
    · exact g5.elim
/-! ### statements -/
/-- a result of an expression, then a statement's end -/
def thenS {α : Type} (σ : Sl) (r : Res α) (f : α → M → SR) : SR := match r with
  | .ok a m => f a m
  | .exc k fs m => .ex σ k fs m
  | .stuck => .stuck
theorem WpS.thn {α β : Type} {R : Cf → α → β → Prop} {c : Cf} {σw : Sl} {σ : St} {r : Res α} {f : α → M → SR} {D : Ends} (S : RelS T c σw σ) (Rm : MP.RelM T c) (w : WpS T Wx c (thenS σw r f) D) :
    Wp T Wx σ R c r fun b H => ∃ (e : Cf) (a : α), e.H = H ∧ Ext c e ∧ MP.RelM T e ∧ R e a b ∧ WpS T Wx e (f a e.m) D := by
  cases r with
  | ok a m => exact fun ρ H b x y z => ⟨⟨ρ, m, H, c.res⟩, a, rfl, x, y, z, WpS.ext w x⟩
  | exc k fs m => exact fun ρ H cls d x y z => w ρ H σ cls d x y (S.ext Rm x) z
  | stuck => exact w
def sNext : Sl → M → SR := fun σ m => .nx σ m
def sSeq (r s : Sl → M → SR) : Sl → M → SR := fun σ m => match r σ m with
  | .nx σ1 m1 => s σ1 m1
  | x => x
theorem sNext_t (D : Ends) (σ : St) (H : Hp) (h : tSt T Wx sNext D σ H) : tNext D σ H := by
  obtain ⟨c, σw, eH, R, S, w⟩ := h
  exact eH ▸ w c.ρ c.H σ (Ext.refl c) R S
theorem sSeq_t {r s : Sl → M → SR} (D : Ends) (σ : St) (H : Hp) (h : tSt T Wx (sSeq r s) D σ H) : tSeq (tSt T Wx r) (tSt T Wx s) D σ H := by
  obtain ⟨c, σw, eH, R, S, w⟩ := h
  refine ⟨c, σw, eH, R, S, ?_⟩
  unfold sSeq at w
  cases hr : r σw c.m with
  | nx σ1 m1 =>
    rw [hr] at w
    exact fun ρ H σ' x y z => ⟨⟨ρ, m1, H, c.res⟩, σ1, rfl, y, z, WpS.ext w x⟩
  | rt v m => rw [hr] at w; exact w
  | bk σ1 m => rw [hr] at w; exact w
  | ex σ1 k fs m => rw [hr] at w; exact w
  | stuck => rw [hr] at w; exact w
def sRet (r : Sl → M → Res W) : Sl → M → SR := fun σ m => thenS σ (r σ m) fun w m1 => .rt w m1
theorem sRet_t {r : Sl → M → Res W} (D : Ends) (σ : St) (H : Hp) (h : tSt T Wx (sRet r) D σ H) : tRet (tE T Wx r) D σ H := by
  obtain ⟨c, σw, eH, R, S, w⟩ := h
  refine ⟨c, σw, eH, R, S, (WpS.thn (R := RelW T) S R w).mono ?_⟩
  rintro x H1 ⟨d, wx, e1, ext, R1, rx, w1⟩
  exact e1 ▸ w1 d.ρ d.H x (Ext.refl d) R1 rx
def sRetN : Sl → M → SR := fun _ m => .rt .non m
theorem sRetN_t (D : Ends) (σ : St) (H : Hp) (h : tSt T Wx sRetN D σ H) : tRetN D σ H := by
  obtain ⟨c, σw, eH, R, S, w⟩ := h
  exact eH ▸ w c.ρ c.H .non (Ext.refl c) R rfl
def sBreak : Sl → M → SR := fun σ m => .bk σ m
theorem sBreak_t (D : Ends) (σ : St) (H : Hp) (h : tSt T Wx sBreak D σ H) : tBreak D σ H := by
  obtain ⟨c, σw, eH, R, S, w⟩ := h
  exact eH ▸ w c.ρ c.H σ (Ext.refl c) R S
def sDrop (r : Sl → M → Res W) : Sl → M → SR := fun σ m => thenS σ (r σ m) fun _ m1 => .nx σ m1
theorem sDrop_t {r : Sl → M → Res W} (D : Ends) (σ : St) (H : Hp) (h : tSt T Wx (sDrop r) D σ H) : tDrop (tE T Wx r) D σ H := by
  obtain ⟨c, σw, eH, R, S, w⟩ := h
  refine ⟨c, σw, eH, R, S, (WpS.thn (R := RelW T) S R w).mono ?_⟩
  rintro x H1 ⟨d, wx, e1, ext, R1, rx, w1⟩
  exact e1 ▸ w1 d.ρ d.H σ (Ext.refl d) R1 (S.ext R ext)
def sIf (b : Sl → M → Res Bool) (r s : Sl → M → SR) : Sl → M → SR := fun σ m => thenS σ (b σ m) fun k m1 => if k = true then r σ m1 else s σ m1
theorem sIf_t {b : Sl → M → Res Bool} {r s : Sl → M → SR} (D : Ends) (σ : St) (H : Hp) (h : tSt T Wx (sIf b r s) D σ H) : tIfS (tB T Wx b) (tSt T Wx r) (tSt T Wx s) D σ H := by
  obtain ⟨c, σw, eH, R, S, w⟩ := h
  refine ⟨c, σw, eH, R, S, (WpS.thn (R := fun _ a b => a = b) S R w).mono ?_⟩
  rintro x H1 ⟨d, k, e1, ext, R1, rx, w1⟩
  subst rx
  cases k with
  | true => simp only [if_true] at w1 ⊢; exact ⟨d, σw, e1, R1, S.ext R ext, w1⟩
  | false => simp only [Bool.false_eq_true, if_false] at w1 ⊢; exact ⟨d, σw, e1, R1, S.ext R ext, w1⟩
/-- target = value, the target names -/
def sAsg (t : Tg) (r : Sl → M → Res W) : Sl → M → SR := fun σ m => thenS σ (r σ m) fun w m1 => match tgSem t w σ with
  | some σ' => .nx σ' m1
  | none => .stuck
theorem sAsg_t {t : Tg} {r : Sl → M → Res W} (D : Ends) (σ : St) (H : Hp) (h : tSt T Wx (sAsg t r) D σ H) : tAsg (tE T Wx r) (tG T t) D σ H := by
  obtain ⟨c, σw, eH, R, S, w⟩ := h
  refine ⟨c, σw, eH, R, S, (WpS.thn (R := RelW T) S R w).mono ?_⟩
  rintro x H1 ⟨d, wx, e1, ext, R1, rx, w1⟩
  refine ⟨d, σw, wx, e1, R1, S.ext R ext, rx, ?_⟩
  split at w1
  · rename_i σ' hs
    try rw [hs]
    exact fun τ Sτ _ => e1 ▸ w1 d.ρ d.H τ (Ext.refl d) R1 Sτ
  · exact w1.elim
/-- o.f = value -/
def sFldPut (g : Cn) (f : Nat) (ro rv : Sl → M → Res W) : Sl → M → SR := fun σ m => thenS σ (rv σ m) fun y m1 => thenS σ (ro σ m1) fun x m2 => thenS σ (fldPut g f x y m2) fun _ m3 => .nx σ m3
theorem sFldPut_t {g : Cn} (hg : CnOk g T) {f : Nat} {x : Str} (hx : T.names[f]? = some x) {ro rv : Sl → M → Res W} (D : Ends) (σ : St) (H : Hp) (h : tSt T Wx (sFldPut g f ro rv) D σ H) : sFld T.K (tE T Wx ro) (tE T Wx rv) x D σ H := by
  obtain ⟨c, σw, eH, R, S, w⟩ := h
  refine ⟨c, σw, eH, R, S, (WpS.thn (R := RelW T) S R w).mono ?_⟩
  rintro y H1 ⟨d, wy, e1, ext, R1, ry, w1⟩
  have S1 := S.ext R ext
  refine ⟨d, σw, e1, R1, S1, (WpS.thn (R := RelW T) S1 R1 w1).mono ?_⟩
  rintro o H2 ⟨d2, wo, e2, ext2, R2, ro', w2⟩
  subst e2
  have S2 := S1.ext R1 ext2
  unfold fldPut at w2
  split at w2
  · rename_i i
    split at w2
    · rename_i k fs ho
      split at w2
      · rename_i hf
        obtain ⟨p, f1, f2⟩ := (show ∃ a, _ from ro')
        obtain ⟨dx, gs, q1, q2⟩ := R2.obj i _ p ho f1
        subst f2
        have ext3 := RelM.extChg (u := .ins (T.ca k) dx (putF x y gs)) (o := .ins k (putN f wy fs)) ho f1
        have fr : FsRel T (d2.chg i p (.ins (T.ca k) dx (putF x y gs)) (.ins k (putN f wy fs))) (putN f wy fs) (putF x y gs) := Paired.mp (putN_rel hx (ry.ext R1 ext2) q2) fun _ _ z => ⟨z.1, z.2.ext R2 ext3⟩
        exact ⟨p, T.ca k, dx, gs, rfl, q1, hg.cls k f hf.1, hg.noat k f x hf.1 hx, by rw [← Paired.len q2]; exact hf.2,
          w2 d2.ρ _ σ ext3 (R2.chg ho f1 ⟨dx, _, upd_same, fr⟩) (S2.ext R2 ext3)⟩
      · exact w2.elim
    · exact w2.elim
  · exact w2.elim
/-- o[i] = value -/
def sItemPut (ro ri rv : Sl → M → Res W) : Sl → M → SR := fun σ m => thenS σ (rv σ m) fun y m1 => thenS σ (ro σ m1) fun x m2 => thenS σ (ri σ m2) fun z m3 => thenS σ (itemPut x z y m3) fun _ m4 => .nx σ m4
def tPut (T : Tb) : TSet := fun o i v H Q => ∃ (c : Cf) (a b w : W), c.H = H ∧ MP.RelM T c ∧ RelW T c a o ∧ RelW T c b i ∧ RelW T c w v ∧ match itemPut a b w c.m with
  | .ok _ m => ∀ ρ H, Ext c ⟨ρ, m, H, c.res⟩ → MP.RelM T ⟨ρ, m, H, c.res⟩ → Q H
  | _ => False
theorem pset (hK : X.K = T.K) (hu : X.A.units + 64 < cLine) : PSet X (tPut T) := by
  intro pins s σ H o i v ov iv u Q I ro ri rv ⟨c, a, b, w, eH, R, ra, rb, rw', h⟩
  subst eH
  exact itemPut_ok hK hu R I ro ri rv ra rb rw' h
theorem itemPut_noexc (a b w : W) (m : M) : NoExc (itemPut a b w m) := by
  intro k fs m'
  simp only [itemPut]
  (repeat' split) <;> simp
theorem sItemPut_t {ro ri rv : Sl → M → Res W} (D : Ends) (σ : St) (H : Hp) (h : tSt T Wx (sItemPut ro ri rv) D σ H) : tAsg (tE T Wx rv) (gSub (tE T Wx ro) (tE T Wx ri) (tPut T)) D σ H := by
  obtain ⟨c, σw, eH, R, S, w⟩ := h
  refine ⟨c, σw, eH, R, S, (WpS.thn (R := RelW T) S R w).mono ?_⟩
  rintro y H1 ⟨d, wy, e1, ext, R1, ry, w1⟩
  have S1 := S.ext R ext
  refine ⟨d, σw, e1, R1, S1, (WpS.thn (R := RelW T) S1 R1 w1).mono ?_⟩
  rintro o H2 ⟨d2, wo, e2, ext2, R2, ro', w2⟩
  have S2 := S1.ext R1 ext2
  refine ⟨d2, σw, e2, R2, S2, (WpS.thn (R := RelW T) S2 R2 w2).mono ?_⟩
  rintro i H3 ⟨d3, wi, e3, ext3, R3, ri', w3⟩
  have S3 := S2.ext R2 ext3
  refine ⟨d3, wo, wi, wy, e3, R3, ro'.ext R2 ext3, ri', (ry.ext R1 ext2).ext R2 ext3, ?_⟩
  cases hp : itemPut wo wi wy d3.m with
  | exc k fs m => exact absurd hp (itemPut_noexc _ _ _ _ k fs m)
  | stuck => rw [hp] at w3; exact w3.elim
  | ok u m =>
    rw [hp] at w3
    exact fun ρ H x y => w3 ρ H σ x y (S3.ext R3 x)
/-! ### for -/
def forItems (t : Tg) (b : Sl → M → SR) : List W → Sl → M → SR
  | [], σ, m => .nx σ m
  | w :: ws, σ, m => match tgSem t w σ with
    | none => .stuck
    | some σ2 => match b σ2 m with
      | .nx σ' m' => forItems t b ws σ' m'
      | .bk σ' m' => .nx σ' m'
      | x => x
def forLive (t : Tg) (b : Sl → M → SR) (i : Nat) : Nat → Nat → Sl → M → SR
  | 0, _, _, _ => .stuck
  | f + 1, j, σ, m => match m[i]? with
    | some (some (.lst xs)) => match xs[j]? with
      | none => .nx σ m
      | some w => match tgSem t w σ with
        | none => .stuck
        | some σ2 => match b σ2 m with
          | .nx σ' m' => forLive t b i f (j + 1) σ' m'
          | .bk σ' m' => .nx σ' m'
          | x => x
    | _ => .stuck
def forAll (F : Nat) (t : Tg) (b : Sl → M → SR) (s : Src) (σ : Sl) (m : M) : SR := match s with
  | .items ws => forItems t b ws σ m
  | .live i => forLive t b i F 0 σ m
def sFor (F : Nat) (t : Tg) (src : Sl → M → Res Src) (b : Sl → M → SR) : Sl → M → SR := fun σ m => thenS σ (src σ m) fun s m1 => forAll F t b s σ m1
theorem sFor_t {F : Nat} {t : Tg} {src : Sl → M → Res Src} {b : Sl → M → SR} (D : Ends) (σ : St) (H : Hp) (h : tSt T Wx (sFor F t src b) D σ H) : tFor (tI T Wx src) (tG T t) (tSt T Wx b) D σ H := by
  obtain ⟨c, σw, eH, R, S, w⟩ := h
  refine ⟨c, σw, eH, R, S, (WpS.thn (R := fun c' s J => SrcOk T c' J s) S R w).mono ?_⟩
  rintro J H1 ⟨c1, s, e1, ext, R1, sok, w1⟩
  subst e1
  have S1 := S.ext R ext
  cases s with
  | items ws =>
    obtain ⟨hgo, hstop, hyld⟩ := sok
    refine ⟨fun i m σ H => m = ws.length - i ∧ i ≤ ws.length ∧ ∃ c σw, c.H = H ∧ Ext c1 c ∧ MP.RelM T c ∧ RelS T c σw σ ∧ WpS T Wx c (forItems t b (ws.drop i) σw c.m) D,
      ⟨ws.length, by simp, Nat.zero_le _, c1, σw, rfl, Ext.refl c1, R1, S1, w1⟩, ?_⟩
    rintro i m σ H ⟨rfl, hi, c, σw, rfl, x, Rm, Sm, wq⟩
    by_cases hlt : i < ws.length
    · refine .inr ⟨hgo i c x.weak Rm hlt, fun σ' H' => ∃ m', m' < ws.length - i ∧ m' = ws.length - (i + 1) ∧ i + 1 ≤ ws.length ∧ ∃ c σw, c.H = H' ∧ Ext c1 c ∧ MP.RelM T c ∧ RelS T c σw σ' ∧ WpS T Wx c (forItems t b (ws.drop (i + 1)) σw c.m) D,
        fun σ' H' ⟨m', a, b⟩ => ⟨m', a, b⟩, fun v H' y => ?_⟩
      have hw : ws[i]? = some ws[i] := List.getElem?_eq_getElem hlt
      obtain ⟨c', g1, g2, g3, g4, g5, g6⟩ := hyld i c _ v H' x.weak Rm hw y
      subst g1
      have hd : ws.drop i = ws[i] :: ws.drop (i + 1) := List.drop_eq_getElem_cons hlt
      rw [hd, ← g2] at wq
      have wq := WpS.ext wq g4 g3
      refine ⟨c', σw, ws[i], rfl, g5, Sm.ext Rm g4, g6, ?_⟩
      simp only [forItems] at wq
      split at wq
      · exact wq.elim
      · rename_i σ2 hs
        rw [hs]
        intro τ Sτ _
        refine ⟨c', σ2, rfl, g5, Sτ, ?_⟩
        split at wq
        · rename_i σ3 m3 hb
          rw [hb]
          exact fun ρ H σ' a1 a2 a3 => ⟨_, by omega, rfl, hlt, ⟨ρ, m3, H, c'.res⟩, σ3, rfl, (x.trans g4).trans a1, a2, a3, WpS.ext wq a1⟩
        · rename_i σ3 m3 hb
          rw [hb]
          exact wq
        · rename_i r n1 n2
          cases hb : b σ2 c'.m with
          | nx a1 a2 => exact absurd hb (n1 a1 a2)
          | bk a1 a2 => exact absurd hb (n2 a1 a2)
          | rt a1 a2 => rw [hb] at wq; exact wq
          | ex a1 a2 a3 a4 => rw [hb] at wq; exact wq
          | stuck => rw [hb] at wq; exact wq
    · have e : i = ws.length := by omega
      subst e
      rw [List.drop_length] at wq
      exact .inl ⟨hstop c x.weak Rm, wq c.ρ c.H σ (Ext.refl c) Rm Sm⟩
  | live i =>
    obtain ⟨a, ea, eJ⟩ := sok
    subst eJ
    refine ⟨fun j m σ H => ∃ c σw, c.H = H ∧ Ext c1 c ∧ MP.RelM T c ∧ RelS T c σw σ ∧ WpS T Wx c (forLive t b i m j σw c.m) D, ⟨F, c1, σw, rfl, Ext.refl c1, R1, S1, w1⟩, ?_⟩
    rintro j m σ H ⟨c, σw, rfl, x, Rm, Sm, wq⟩
    cases m with
    | zero => exact wq.elim
    | succ f =>
      unfold forLive at wq
      split at wq
      · rename_i xs hx
        obtain ⟨vs, q1, q2⟩ := Rm.obj i _ a hx (x.at ea)
        split at wq
        · rename_i hn
          have hl : xs.length ≤ j := List.getElem?_eq_none_iff.mp hn
          exact .inl ⟨⟨vs, .inl (.inl q1), by rw [← q2.length]; exact hl⟩, wq c.ρ c.H σ (Ext.refl c) Rm Sm⟩
        · rename_i w hw
          obtain ⟨v, hv1, hv2⟩ := q2.get hw
          refine .inr ⟨⟨vs, v, .inl (.inl q1), hv1⟩, fun σ' H' => ∃ m', m' < f + 1 ∧ ∃ c σw, c.H = H' ∧ Ext c1 c ∧ MP.RelM T c ∧ RelS T c σw σ' ∧ WpS T Wx c (forLive t b i m' (j + 1) σw c.m) D, fun σ' H' q => q, fun y H' yl => ?_⟩
          obtain ⟨y1, y2⟩ := yl
          subst y1
          have ev := y2 vs (.inl (.inl q1))
          rw [hv1] at ev
          cases ev
          refine ⟨c, σw, w, rfl, Rm, Sm, hv2, ?_⟩
          split at wq
          · exact wq.elim
          · rename_i σ2 hs
            rw [hs]
            intro τ Sτ _
            refine ⟨c, σ2, rfl, Rm, Sτ, ?_⟩
            split at wq
            · rename_i σ3 m3 hb
              rw [hb]
              exact fun ρ H σ' a1 a2 a3 => ⟨f, by omega, ⟨ρ, m3, H, c.res⟩, σ3, rfl, x.trans a1, a2, a3, WpS.ext wq a1⟩
            · rename_i σ3 m3 hb
              rw [hb]
              exact wq
            · rename_i r n1 n2
              cases hb : b σ2 c.m with
              | nx a1 a2 => exact absurd hb (n1 a1 a2)
              | bk a1 a2 => exact absurd hb (n2 a1 a2)
              | rt a1 a2 => rw [hb] at wq; exact wq
              | ex a1 a2 a3 a4 => rw [hb] at wq; exact wq
              | stuck => rw [hb] at wq; exact wq
      · exact wq.elim
/-! ### while -/
def whileL (b : Sl → M → Res Bool) (s : Sl → M → SR) : Nat → Sl → M → SR
  | 0, _, _ => .stuck
  | f + 1, σ, m => thenS σ (b σ m) fun k m1 => if k = true then (match s σ m1 with
      | .nx σ' m' => whileL b s f σ' m'
      | .bk σ' m' => .nx σ' m'
      | x => x) else .nx σ m1
theorem sWhile_t {F : Nat} {b : Sl → M → Res Bool} {s : Sl → M → SR} (D : Ends) (σ : St) (H : Hp) (h : tSt T Wx (whileL b s F) D σ H) : tWhile (tB T Wx b) (tSt T Wx s) D σ H := by
  refine ⟨fun f σ H => tSt T Wx (whileL b s f) D σ H, ⟨F, h⟩, fun f σ H h => ?_⟩
  obtain ⟨c, σw, eH, R, S, w⟩ := h
  cases f with
  | zero => exact w.elim
  | succ f =>
    refine ⟨c, σw, eH, R, S, (WpS.thn (R := fun _ a b => a = b) S R w).mono ?_⟩
    rintro x H1 ⟨d, k, e1, ext, R1, rx, w1⟩
    subst rx e1
    have S1 := S.ext R ext
    cases k with
    | false => simp only [Bool.false_eq_true, if_false] at w1 ⊢; exact w1 d.ρ d.H σ (Ext.refl d) R1 S1
    | true =>
      simp only [if_true] at w1 ⊢
      refine ⟨fun σ' H' => ∃ m', m' < f + 1 ∧ tSt T Wx (whileL b s m') D σ' H', fun σ' H' q => q, d, σw, rfl, R1, S1, ?_⟩
      split at w1
      · rename_i σ3 m3 hb
        rw [hb]
        exact fun ρ H σ' a1 a2 a3 => ⟨f, by omega, ⟨ρ, m3, H, d.res⟩, σ3, rfl, a2, a3, WpS.ext w1 a1⟩
      · rename_i σ3 m3 hb
        rw [hb]
        exact w1
      · rename_i r n1 n2
        cases hb : s σw d.m with
        | nx a1 a2 => exact absurd hb (n1 a1 a2)
        | bk a1 a2 => exact absurd hb (n2 a1 a2)
        | rt a1 a2 => rw [hb] at w1; exact w1
        | ex a1 a2 a3 a4 => rw [hb] at w1; exact w1
        | stuck => rw [hb] at w1; exact w1
end
end MP
end

section
set_option maxHeartbeats 4000000
/-! MPCall: own defs, methods, classes. -/
namespace MP
open PySem PySem.Spec PyProof.Rows L2

/-- what a def promises, told by a function of the small interpreter -/
def spC (T : Tb) (sem : List W → M → Res W) : Sp := fun vs H Q E => ∃ (c : Cf) (ws : List W), c.H = H ∧ MP.RelM T c ∧ RelWs T c ws vs ∧ Wp T (fun cls d _ H => E cls d H) [] (RelW T) c (sem ws c.m) Q
structure FnG (P : Program) (w : World) (K : PySem.W.Frag) (mg : Str → Option Value) (base : Heap) (n : Nat) (f : Addr) (sp : Sp) : Prop where
  run : ∀ (A : Around) (up : List Env) (s : Shared) (H : Hp) (us : List Value) (vs : List V) (Q : VK) (E : XK), Room n A → A.guards = some [] → Env0 P w K mg base A up s H → Vals vs us → sp vs H Q E →
    codeAny (model P w) A (.call (.ref f) ⟨us, []⟩) (CR (L2.CX P w) up P w H s Q E) s
theorem FnG.imp {P : Program} {w : World} {K : PySem.W.Frag} {mg : Str → Option Value} {base : Heap} {n : Nat} {f : Addr} {sp sp' : Sp} (F : FnG P w K mg base n f sp) (h : ∀ vs H Q E, sp' vs H Q E → sp vs H Q E) : FnG P w K mg base n f sp' :=
  ⟨fun A up s H us vs Q E a b c d e => F.run A up s H us vs Q E a b c d (h _ _ _ _ e)⟩
theorem FnG.mono {P : Program} {w : World} {K : PySem.W.Frag} {mg : Str → Option Value} {base : Heap} {n k : Nat} {f : Addr} {sp : Sp} (F : FnG P w K mg base n f sp) (h : n ≤ k) : FnG P w K mg base k f sp :=
  ⟨fun A up s H us vs Q E a b c d e => F.run A up s H us vs Q E (a.mono h) b c d e⟩

/-- a def, by its body -/
theorem fnG_of {P : Program} {w : World} {K : PySem.W.Frag} {mg : Str → Option Value} {base : Heap} {n : Nat} {f : Addr} {nm qual : Str} {pr : Arguments} {bd : List Stmt} {sc : Scope} {dV kV doc pm cv ct oc : Value} {an od : Option Addr}
    {osl : Array (Option Value)} {N ps : List Str} {sp : Sp} (lk : K.lookup f = some ⟨oc, od, .func (PySem.W.fnOf nm qual pr bd sc dV kV doc pm an cv ct), osl⟩) (hcd : PySem.W.codeIn K cv qual = true) (S : FnScope N ps sc)
    (hbd : ∀ vs H Q E, sp vs H Q E → ∃ (ds : List Value) (dvs : List V), Binds K (PySem.W.fnOf nm qual pr bd sc dV kV doc pm an cv ct) ps ds ∧ Vals dvs ds ∧ (vs ++ dvs).length = ps.length ∧
      ∀ (A : Around) (up : List Env) (s : Shared), Room n (A.deeper (envOfC qual sc s.heap.objs.size f cv)) → A.guards = some [] →
        ∃ t, PSs (cxOf (L2.CX P w) P w K mg base N qual sc f cv A up s H E) bd t ∧ t { nx := fun _ H' => Q .non H', rt := Q } (start N (vs ++ dvs)) H) :
    FnG P w K mg base (n + 1) f sp := by
  refine ⟨fun A up s H us vs Q E hr hgd e0 r hsp => ?_⟩
  obtain ⟨ds, dvs, hb, rd, hl, hgo⟩ := hbd vs H Q E hsp
  have rr : Vals (vs ++ dvs) (us ++ ds) := r.append rd
  have kin : K.In s.heap := e0.mod.kin.keeps fun b o e => (e0.bs b o e).1
  have nol : s.heap.NoLimit := e0.mod.nolimit.keeps fun b o e => (e0.bs b o e).1
  have hkd : ∀ y ∈ ps.zip (us ++ ds), sc.names.lookup y.1 = some .local ∨ (sc.names.lookup y.1 = some .cell ∧ ((cellsFrom (s.heap.objs.size + 1) sc.names []).lookup y.1).isSome = true) := fun ⟨x, v⟩ hy => by
    rcases S.par x (List.of_mem_zip hy).1 with q | q
    · exact .inl q
    · exact .inr ⟨q, PySem.W.cellsFrom_some _ _ _ (.inl q)⟩
  have hbs := hb s us kin (by rw [← rr.length]; exact hl)
  refine codeAny_call_function hr.depth (kin _ _ lk) rfl S.co S.gen rfl (PySem.W.codeRec_of kin hcd) (hbs _ _ _ _ ?_)
  refine wpAny_newFunctionEnv_cells S.kind hkd fun env he s1 x => ?_
  subst he
  refine ⟨nol.keeps x.toInCall.keep, codeAny_func ?_⟩
  obtain ⟨t, ht, hq⟩ := hgo A up s (hr.deeper _) hgd
  have J0 : Inv (cxOf (L2.CX P w) P w K mg base N qual sc f cv A up s H E) [] (start N (vs ++ dvs)) H s1 := inv_start S hr.hd e0 hl rr x
  refine wpAny_mono (ht.run [] s1 (start N (vs ++ dvs)) H _ J0 hq) (fun fl s' hs => ?_) fun e s' hs => hs
  cases fl with
  | ret u =>
    obtain ⟨v, σ', H', J, rv, q⟩ := hs
    exact ⟨v, H', J.os, J.bare, J.base, J.hok, rv, q⟩
  | next =>
    obtain ⟨σ', H', J, q⟩ := hs
    exact ⟨V.non, H', J.os, J.bare, J.base, J.hok, rfl, q⟩
  | brk => obtain ⟨_, _, _, q⟩ := hs; exact q.elim
  | cont => obtain ⟨_, _, _, q⟩ := hs; exact q.elim

section
variable {X : Cx} {T : Tb} {Wx : WX} {n : Nat} {f C : Addr} {sem : List W → M → Res W}
/-- the callee runs, the arguments stand -/
theorem run_fnG {sp : Sp} {pins : List (Addr × Obj)} {σ : L2.St} {H : Hp} {s : Shared} {Q : VK} {us : List Value} {vs : List V} (F : FnG X.prog X.w X.K X.mg X.base n f sp) (hr : Room n X.A) (hg : X.A.guards = some []) (tk : Takes X Wx)
    (I : Inv X pins σ H s) (r : Vals vs us) (h : sp vs H Q (fun cls d H' => Wx cls d σ H')) : wpAny (model X.prog X.w) X.A (call (.ref f) us) (EP X pins σ Q) X.xe s := by
  refine wpAny_call (codeAny_mono (F.run X.A X.stack s H us vs Q _ hr hg I.env0 r h) fun q s' hq => ?_)
  cases q with
  | error e => exact tk e s' (XE.of_call I (fun _ _ _ z => z) hq)
  | ok fl =>
    cases fl with
    | ret u => exact I.after hq
    | next => exact hq.elim
    | brk => exact hq.elim
    | cont => exact hq.elim
/-- f(..) -/
def eCall (sem : List W → M → Res W) (rs : Sl → M → Res (List W)) : Sl → M → Res W := fun σ m => (rs σ m).bind sem
theorem args_run {rs : Sl → M → Res (List W)} {sem : List W → M → Res W} {c : Cf} {σw : Sl} {σ : L2.St} {Q : VK} (w : Wp T Wx σ (RelW T) c ((rs σw c.m).bind sem) Q) :
    Wp T Wx σ (RelWs T) c (rs σw c.m) fun vs H1 => spC T sem vs H1 Q (fun cls d H' => Wx cls d σ H') := by
  refine (Wp.bind (R := RelWs T) w).mono ?_
  rintro vs H1 ⟨d, ws, e1, ext, R1, rx, w1⟩
  exact ⟨d, ws, e1, R1, rx, w1⟩
theorem nil_run {sem : List W → M → Res W} {c : Cf} {σw : Sl} {σ : L2.St} {Q : VK} (R : MP.RelM T c) (w : Wp T Wx σ (RelW T) c ((eNil σw c.m).bind sem) Q) : spC T sem [] c.H Q (fun cls d H' => Wx cls d σ H') := ⟨c, [], rfl, R, RelWs.nil, w⟩
/-- what is asked of argument lists -/
def Plain (X : Cx) (pos : Pos) (es : List Expr) : Prop := ∀ e es', es = e :: es' → starEach (e :: es') X.env = (false, eval e X.env) :: starEach es' X.env ∧ (backTo pos (starEach es' X.env)).any (·.1) = false
theorem pe_callG {x : Str} {p pos : Pos} {es : List Expr} {rs : Sl → M → Res (List W)} (F : FnG X.prog X.w X.K X.mg X.base n f (spC T sem)) (hr : Room n X.A) (hgd : X.A.guards = some []) (tk : Takes X Wx) (hg : Gl X x) (hm : X.mg x = some (.ref f))
    (hk : PySem.W.keepIn X.K (.ref f) = true) (ha : PA X es (tEs T Wx rs)) (hn : es = [] → rs = eNil) (hdb : (x == ("__debug__" : Str)) = false) (he : Plain X pos es) :
    PE X (.Call (.Name x p) es [] pos) (tE T Wx (eCall sem rs)) := by
  refine ⟨fun pins s σ H Q I h => ?_⟩
  obtain ⟨c, σw, eH, R, S, w⟩ := h
  subst eH
  refine wpAny_Call_Name_kw (ld_glob I hg hm ?_ hdb)
  cases es with
  | nil =>
    rw [hn rfl] at w
    exact PySem.W.callWith_K0 I.kIn hk (run_fnG (us := []) F hr hgd tk I .nil (nil_run R w))
  | cons e es =>
    obtain ⟨h1, h2⟩ := he e es rfl
    refine PySem.W.callWith_K (h₀ := X.base) I.ok.mod.kin hk (thn (ha.run pos pins s σ c.H _ I ⟨c, σw, rfl, R, S, args_run w⟩) fun us s1 ⟨vs, H1, I1, r, q⟩ => ⟨I1.kIn, ?_⟩) h1 h2
    exact run_fnG F hr hgd tk I1 r q
/-- o.m(..), by the class of o -/
def eMeth (tb : Nat → Option (List W → M → Res W)) (fi : Nat) (ro : Sl → M → Res W) (rs : Sl → M → Res (List W)) : Sl → M → Res W := fun σ m => (ro σ m).bind fun x m1 => match x with
  | .ref i => match m1[i]? with
    | some (some (.ins k fs)) => match tb k with
      | some sem => if (fs.lookup fi).isNone = true then (rs σ m1).bind fun ws m2 => sem (x :: ws) m2 else .stuck
      | none => .stuck
    | _ => .stuck
  | _ => .stuck
structure MtOk (X : Cx) (T : Tb) (n : Nat) (k : Nat) (m : Str) (sem : List W → M → Res W) : Prop where
  cls : Cls X.K (T.ca k)
  ex : ∃ f, Meth X.K (T.ca k) m f ∧ FnG X.prog X.w X.K X.mg X.base n f (spC T sem)
theorem pe_methG {tb : Nat → Option (List W → M → Res W)} {fi : Nat} {m : Str} {o : Expr} {apos pos : Pos} {es : List Expr} {ro : Sl → M → Res W} {rs : Sl → M → Res (List W)} {pl : Sem Bool} (hT : ∀ k sem, tb k = some sem → MtOk X T n k m sem) (hf : T.names[fi]? = some m)
    (hr : Room n X.A) (hgd : X.A.guards = some []) (tk : Takes X Wx) (ho : PE X o (tE T Wx ro)) (ha : PA X es (tEs T Wx rs)) (hn : es = [] → rs = eNil) (he : Plain X pos es)
    (ht : eval (.Call (.Attribute o m apos) es [] pos) X.env = (do
      let ov ← eval o X.env
      standAt apos.atName
      let (f, first) ← holding [ov] (getMethod ov m pl)
      callWith pos f first (backTo pos (starEach es X.env)) (backToKw pos (keywordEach [] X.env)))) :
    PE X (.Call (.Attribute o m apos) es [] pos) (tE T Wx (eMeth tb fi ro rs)) := by
  refine ⟨fun pins s σ H Q I h => ?_⟩
  obtain ⟨c, σw, eH, R, S, w⟩ := h
  subst eH
  refine PySem.W.methodCall_KW (pl := pl) (thn (ho.run pins s σ c.H _ I ⟨c, σw, rfl, R, S, Wp.bind (R := RelW T) w⟩) fun u s1 hh => ?_) ht
  obtain ⟨x, H1, I1, rx, d, wx, e1, ext, R1, rw1, w1⟩ := hh
  subst e1
  split at w1
  · rename_i i
    split at w1
    · rename_i k fs hk
      split at w1
      · rename_i sem hs
        split at w1
        · rename_i hl
          obtain ⟨a, ea, ex⟩ := (show ∃ a, _ from rw1)
          obtain ⟨dx, gs, q1, q2⟩ := R1.obj i _ a hk ea
          subst ex
          obtain rfl : u = Value.ref a := rx
          obtain ⟨mc, f, mm, F⟩ := hT k sem hs
          have ln : gs.lookup m = none := by
            rcases fs_lookup hf q2 with ⟨z1, z2⟩ | ⟨w', v', z1, z2, z3⟩
            · exact z2
            · rw [z1] at hl; cases hl
          refine getmeth_ok I1 q1 mc mm ln ?_
          have S1 := S.ext R ext
          cases es with
          | nil =>
            rw [hn rfl] at w1
            exact PySem.W.callWith_K0 (first := [.ref a]) I1.kIn mm.kp (run_fnG (us := [.ref a]) (vs := [.ref a]) F hr hgd tk I1 (.cons rfl .nil) ⟨d, [.ref i], rfl, R1, RelWs.cons rw1 RelWs.nil, w1⟩)
          | cons e es =>
            obtain ⟨h1, h2⟩ := he e es rfl
            refine PySem.W.callWith_K (first := [.ref a]) (h₀ := X.base) I.ok.mod.kin mm.kp (thn (ha.run pos pins s1 σ d.H _ I1 ⟨d, σw, rfl, R1, S1, Wp.bind (R := RelWs T) w1⟩) fun us s2 hh => ?_) h1 h2
            obtain ⟨vs, H2, I2, r, d2, ws, e2, ext2, R2, rs2, w2⟩ := hh
            refine ⟨I2.kIn, ?_⟩
            exact run_fnG (us := .ref a :: us) (vs := .ref a :: vs) F hr hgd tk I2 (.cons rfl r) ⟨d2, .ref i :: ws, e2, R2, RelWs.cons (rw1.ext R1 ext2) rs2, w2⟩
        · exact w1.elim
      · exact w1.elim
    · exact w1.elim
  · exact w1.elim
/-- C(..): a new thing, then its __init__ -/
def asNew (i : Nat) (r : Res W) : Res W := r.bind fun w m => match w with
  | .non => .ok (.ref i) m
  | _ => .stuck
def makeSem (k : Nat) (sem : List W → M → Res W) (ws : List W) (m : M) : Res W := asNew m.length (sem (.ref m.length :: ws) (m ++ [some (.ins k [])]))
theorem run_makeG {k : Nat} {pins : List (Addr × Obj)} {σ : L2.St} {H : Hp} {s : Shared} {Q : VK} {us : List Value} {vs : List V} (Mk' : Mk X.K (T.ca k) f) (F : FnG X.prog X.w X.K X.mg X.base n f (spC T sem)) (hr : Room (n + 1) X.A) (hg : X.A.guards = some []) (tk : Takes X Wx)
    (I : Inv X pins σ H s) (r : Vals vs us) (h : spC T (makeSem k sem) vs H Q (fun cls d H' => Wx cls d σ H')) : wpAny (model X.prog X.w) X.A (call (.ref (T.ca k)) us) (EP X pins σ Q) X.xe s := by
  obtain ⟨c, ws, eH, R, rws, w⟩ := h
  subst eH
  have I2 := Inv.made (C := T.ca k) I
  have hx : c.H (s.heap.objs.size + 1) = none := I.hok.fresh (Nat.le_succ _)
  have hdx : c.H s.heap.objs.size = none := I.hok.fresh (Nat.le_refl _)
  have R0 := R.put (u := .own (s.heap.objs.size + 1)) hdx
  have X0 := R.extPut (u := .own (s.heap.objs.size + 1)) hdx
  have hx0 : (c.put s.heap.objs.size (.own (s.heap.objs.size + 1))).H (s.heap.objs.size + 1) = none := by
    show upd c.H _ _ _ = none
    rw [upd_ne (by simp)]; exact hx
  have X1 := R0.extAdd (u := .ins (T.ca k) s.heap.objs.size []) (o := .ins k []) hx0
  have R1 := R0.add (u := .ins (T.ca k) s.heap.objs.size []) (o := .ins k []) hx0 ⟨s.heap.objs.size, [], upd_same, .nil⟩
  have ref : RelW T ((c.put s.heap.objs.size (.own (s.heap.objs.size + 1))).add (s.heap.objs.size + 1) (.ins (T.ca k) s.heap.objs.size []) (.ins k [])) (.ref c.m.length) (.ref (s.heap.objs.size + 1)) := ⟨_, Cf.add_ref R0, rfl⟩
  have hq : spC T sem (V.ref (s.heap.objs.size + 1) :: vs) (upd (upd c.H s.heap.objs.size (.own (s.heap.objs.size + 1))) (s.heap.objs.size + 1) (.ins (T.ca k) s.heap.objs.size []))
      (fun v H2 => v = .non ∧ Q (.ref (s.heap.objs.size + 1)) H2) (fun cls d H' => Wx cls d σ H') := by
    refine ⟨_, .ref c.m.length :: ws, rfl, R1, RelWs.cons ref ((rws.ext R X0).ext R0 X1), ?_⟩
    have w' := Wp.ext w (X0.trans X1)
    refine (Wp.bind (R := RelW T) w').mono ?_
    rintro v H2 ⟨e, wv, e1, ext, Re, rv, we⟩
    split at we
    · cases rv
      exact ⟨rfl, e1 ▸ we e.ρ e.H _ (Ext.refl e) Re (ref.ext R1 ext)⟩
    · exact we.elim
  refine wpAny_call (make_map (f := f) I.kIn Mk'.makes Mk'.init (beq_iff_eq.mp Mk'.fn) (codeAny_mono (F.run _ X.stack _ _ (Value.ref (s.heap.objs.size + 1) :: us) _ _ _ (hr.make (T.ca k) us []) ?_
    (I2.env0.make (T.ca k) us []) (show Vals (V.ref (s.heap.objs.size + 1) :: vs) (Value.ref (s.heap.objs.size + 1) :: us) from .cons rfl r) hq) fun q s' hq' => ?_))
  · have z : (decide ("type.__call__" ∈ guardIds)) = false := by decide
    have z' : ¬ ("type.__call__" ∈ guardIds) := by simpa using z
    simpa [Around.under, Code.guards, Code.isGuard, pushGuards, z'] using hg
  · cases q with
    | error e => exact tk e s' (XE.of_call I2 (fun _ _ _ z => z) hq')
    | ok fl =>
      cases fl with
      | ret u =>
        obtain ⟨v, H', I3, rv, ev, q3⟩ := I2.after hq'
        subst ev
        exact ⟨rv, ⟨V.ref (s.heap.objs.size + 1), H', I3, rfl, q3⟩⟩
      | next => exact hq'.elim
      | brk => exact hq'.elim
      | cont => exact hq'.elim
theorem pe_makeG {k : Nat} {x : Str} {p pos : Pos} {es : List Expr} {rs : Sl → M → Res (List W)} (Mk' : Mk X.K (T.ca k) f) (F : FnG X.prog X.w X.K X.mg X.base n f (spC T sem)) (hr : Room (n + 1) X.A) (hgd : X.A.guards = some []) (tk : Takes X Wx) (hg : Gl X x) (hm : X.mg x = some (.ref (T.ca k)))
    (ha : PA X es (tEs T Wx rs)) (hn : es = [] → rs = eNil) (hdb : (x == ("__debug__" : Str)) = false) (he : Plain X pos es) :
    PE X (.Call (.Name x p) es [] pos) (tE T Wx (eCall (makeSem k sem) rs)) := by
  refine ⟨fun pins s σ H Q I h => ?_⟩
  obtain ⟨c, σw, eH, R, S, w⟩ := h
  subst eH
  refine wpAny_Call_Name_kw (ld_glob I hg hm ?_ hdb)
  cases es with
  | nil =>
    rw [hn rfl] at w
    exact PySem.W.callWith_K0 I.kIn Mk'.kp (run_makeG (us := []) Mk' F hr hgd tk I .nil (nil_run R w))
  | cons e es =>
    obtain ⟨h1, h2⟩ := he e es rfl
    refine PySem.W.callWith_K (h₀ := X.base) I.ok.mod.kin Mk'.kp (thn (ha.run pos pins s σ c.H _ I ⟨c, σw, rfl, R, S, args_run w⟩) fun us s1 ⟨vs, H1, I1, r, q⟩ => ⟨I1.kIn, ?_⟩) h1 h2
    exact run_makeG Mk' F hr hgd tk I1 r q
end
end MP
end

section
set_option maxHeartbeats 4000000
/-! MPOwn: a list frozen for good; len(x) and x[i] by an own __len__, __getitem__. -/
namespace MP
open PySem PySem.Spec PyProof.Rows L2

/-! ### a list that nobody changes any more -/
def frzSem (w : W) (m : M) : Res W := match w with
  | .ref i => match m[i]? with
    | some (some (.lst xs)) => .ok (.lst xs) (m.set i none)
    | _ => .stuck
  | .lst xs => .ok (.lst xs) m
  | _ => .stuck
section
variable {T : Tb} {c : Cf}
theorem frz_alive {i : Nat} {a : Addr} (h : Alive ⟨c.ρ, c.m.set i none, c.H, c.res⟩ a) : Alive c a := by
  obtain ⟨j, o, e1, e2⟩ := h
  refine ⟨j, o, e1, ?_⟩
  by_cases hj : i = j
  · subst hj
    have hl : i < c.m.length := by
      have := (List.getElem?_eq_some_iff.mp e2).1
      rwa [List.length_set] at this
    have e2 : (c.m.set i none)[i]? = some (some o) := e2
    rw [List.getElem?_set_self hl] at e2
    cases e2
  · have e2 : (c.m.set i none)[j]? = some (some o) := e2
    rwa [List.getElem?_set_ne hj] at e2
theorem frz_ext (i : Nat) : Ext c ⟨c.ρ, c.m.set i none, c.H, c.res⟩ :=
  ⟨fun _ o h => ⟨o, h⟩, ⟨[], rfl, by simp⟩, ⟨[], by simp⟩, fun _ _ h n => ⟨h, fun z => n (frz_alive z)⟩⟩
theorem frz_rel (R : MP.RelM T c) (i : Nat) : MP.RelM T ⟨c.ρ, c.m.set i none, c.H, c.res⟩ := by
  refine ⟨by rw [List.length_set]; exact R.len, R.nd, R.has, R.resH, R.resN, fun j o a e1 e2 => ?_⟩
  have e1 : (c.m.set i none)[j]? = some (some o) := e1
  by_cases hj : i = j
  · subst hj
    have hl : i < c.m.length := by
      have := (List.getElem?_eq_some_iff.mp e1).1
      rwa [List.length_set] at this
    rw [List.getElem?_set_self hl] at e1
    cases e1
  · rw [List.getElem?_set_ne hj] at e1
    have q := R.obj j o a e1 e2
    cases o with
    | lst xs => obtain ⟨vs, h1, h2⟩ := q; exact ⟨vs, h1, h2.ext R (frz_ext i)⟩
    | dK xs => obtain ⟨vs, h1, h2⟩ := q; exact ⟨vs, h1, Paired.mp h2 fun _ _ z => ⟨z.1, z.2.ext R (frz_ext i)⟩⟩
    | dT xs => obtain ⟨vs, h1, h2⟩ := q; exact ⟨vs, h1, Paired.mp h2 fun _ _ z => ⟨z.1, z.2.ext R (frz_ext i)⟩⟩
    | ins k fs => obtain ⟨dx, gs, h1, h2⟩ := q; exact ⟨dx, gs, h1, Paired.mp h2 fun _ _ z => ⟨z.1, z.2.ext R (frz_ext i)⟩⟩
theorem tE_frz {Wx : WX} {ra : Sl → M → Res W} (σ : L2.St) (H : Hp) (Q : VK) (h : tE T Wx (one ra frzSem) σ H Q) : tE T Wx ra σ H Q := by
  obtain ⟨c, σw, eH, R, S, w⟩ := h
  refine ⟨c, σw, eH, R, S, (Wp.bind (R := RelW T) w).mono ?_⟩
  rintro v H1 ⟨d, wx, e1, ext, R1, rx, w1⟩
  subst e1
  unfold frzSem at w1
  split at w1
  · rename_i i
    split at w1
    · rename_i xs hm
      obtain ⟨a, ea, ex⟩ := (show ∃ a, _ from rx)
      subst ex
      obtain ⟨vs, q1, q2⟩ := R1.obj i _ a hm ea
      refine w1 d.ρ d.H _ (frz_ext i) (frz_rel R1 i) ⟨a, vs, rfl, q1, ?_, q2.ext R1 (frz_ext i)⟩
      rintro (⟨j, o, z1, z2⟩ | z)
      · have z1 : d.ρ[j]? = some a := z1
        have hl : i < d.ρ.length := (List.getElem?_eq_some_iff.mp ea).1
        have hij : i = j := (List.getElem?_inj hl R1.nd).mp (by rw [ea, z1])
        subst hij
        have z2 : (d.m.set i none)[i]? = some (some o) := z2
        rw [List.getElem?_set_self (by rw [← R1.len]; exact hl)] at z2
        cases z2
      · exact R1.resN a z (List.mem_of_getElem? ea)
    · exact w1.elim
  · exact w1 d.ρ d.H _ (Ext.refl d) R1 rx
  · exact w1.elim
end

/-- -x -/
def negSem (a : W) (m : M) : Res W := match a with
  | .int i => .ok (.int (-i)) m
  | _ => .stuck
theorem negSem_noexc (a : W) (m : M) : NoExc (negSem a m) := by
  intro k fs n
  unfold negSem
  split <;> simp
theorem neg_rU {T : Tb} (x : V) (H : Hp) (Q : VK) (h : rW1 T negSem x H Q) : rU (fun i => V.int (-i)) x H Q := by
  obtain ⟨c, a, eH, R, ra, w⟩ := h
  unfold negSem at w
  split at w
  · rename_i i
    cases (show x = V.int i from ra)
    exact ⟨i, rfl, eH ▸ w c.ρ c.H _ (Ext.refl c) R rfl⟩
  · exact w.elim
/-- a list in a slot, frozen ahead of a statement -/
def sFrz (i : Nat) (r : Sl → M → SR) : Sl → M → SR := fun σ m => match σ[i]? with
  | some (some (.ref j)) => match m[j]? with
    | some (some (.lst xs)) => r (σ.set i (some (.lst xs))) (m.set j none)
    | _ => .stuck
  | _ => .stuck
theorem frz_relW {T : Tb} {d : Cf} {i : Nat} {xs : List W} {v : V} (R1 : MP.RelM T d) (hm : d.m[i]? = some (some (.lst xs))) (rx : RelW T d (.ref i) v) : RelW T ⟨d.ρ, d.m.set i none, d.H, d.res⟩ (.lst xs) v := by
  obtain ⟨a, ea, ex⟩ := (show ∃ a, _ from rx)
  subst ex
  obtain ⟨vs, q1, q2⟩ := R1.obj i _ a hm ea
  refine ⟨a, vs, rfl, q1, ?_, q2.ext R1 (frz_ext i)⟩
  rintro (⟨j, o, z1, z2⟩ | z)
  · have z1 : d.ρ[j]? = some a := z1
    have hl : i < d.ρ.length := (List.getElem?_eq_some_iff.mp ea).1
    have hij : i = j := (List.getElem?_inj hl R1.nd).mp (by rw [ea, z1])
    subst hij
    have z2 : (d.m.set i none)[i]? = some (some o) := z2
    rw [List.getElem?_set_self (by rw [← R1.len]; exact hl)] at z2
    cases z2
  · exact R1.resN a z (List.mem_of_getElem? ea)
theorem sFrz_t {T : Tb} {Wx : WX} {i : Nat} {r : Sl → M → SR} (D : Ends) (σ : L2.St) (H : Hp) (h : tSt T Wx (sFrz i r) D σ H) : tSt T Wx r D σ H := by
  obtain ⟨c, σw, eH, R, S, w⟩ := h
  unfold sFrz at w
  split at w
  · rename_i j hj
    split at w
    · rename_i xs hm
      obtain ⟨v, e1, e2⟩ := S.at_ i _ hj
      have hs := (S.ext R (frz_ext j)).set i (frz_relW R hm e2)
      have e3 : σ.set i (some v) = σ := by
        refine List.ext_getElem? fun k => ?_
        by_cases hk : i = k
        · subst hk
          rw [List.getElem?_set_self (List.getElem?_eq_some_iff.mp e1).1, e1]
        · rw [List.getElem?_set_ne hk]
      rw [e3] at hs
      exact ⟨⟨c.ρ, c.m.set j none, c.H, c.res⟩, σw.set i (some (.lst xs)), eH, frz_rel R j, hs, WpS.ext w (frz_ext j)⟩
    · exact w.elim
  · exact w.elim
/-! ### own __len__, __getitem__ -/
def ownSem (tb : Nat → Option (List W → M → Res W)) (x : W) (more : List W) (m : M) : Res W := match x with
  | .ref i => match m[i]? with
    | some (some (.ins k _)) => match tb k with
      | some sem => sem (x :: more) m
      | none => .stuck
    | _ => .stuck
  | _ => .stuck
def asLen (w : W) (m : M) : Res W := match w with
  | .int n => if 0 ≤ n ∧ n < 2 ^ 63 then .ok (.int n) m else .stuck
  | _ => .stuck
def eOlen (tb : Nat → Option (List W → M → Res W)) (ra : Sl → M → Res W) : Sl → M → Res W := fun σ m => (ra σ m).bind fun x m1 => (ownSem tb x [] m1).bind asLen
def eOix (tb : Nat → Option (List W → M → Res W)) (ra rb : Sl → M → Res W) : Sl → M → Res W := fun σ m => (ra σ m).bind fun x m1 => (rb σ m1).bind fun y m2 => ownSem tb x [y] m2
/-- the class's own def for a special name -/
structure OwOk (X : Cx) (T : Tb) (n : Nat) (k : Nat) (m : Str) (sem : List W → M → Res W) : Prop where
  ex : ∃ f, Meth X.K (T.ca k) m f ∧ PySem.W.fnIn X.K f = true ∧ FnG X.prog X.w X.K X.mg X.base n f (spC T sem)
section
variable {X : Cx} {T : Tb} {Wx : WX} {n : Nat}
/-- the callee runs below a builtin -/
theorem run_fnG1 {sp : Sp} {f : Addr} {pins : List (Addr × Obj)} {σ : L2.St} {H : Hp} {s : Shared} {Q : VK} {us : List Value} {vs : List V} (F : FnG X.prog X.w X.K X.mg X.base n f sp) (hr : Room (n + 1) X.A) (hg : X.A.guards = some []) (tk : Takes X Wx)
    (I : Inv X pins σ H s) (r : Vals vs us) (h : sp vs H Q (fun cls d H' => Wx cls d σ H')) : wpAny (model X.prog X.w) X.A.in1 (call (.ref f) us) (EP X pins σ Q) X.xe s := by
  refine wpAny_call (codeAny_mono (F.run X.A.in1 X.stack s H us vs Q _ (Room.in1 hr) (by simpa [Around.in1] using hg) I.env0.in1 r h) fun q s' hq => ?_)
  cases q with
  | error e => exact tk e s' (XE.of_call I (fun _ _ _ z => z) hq)
  | ok fl =>
    cases fl with
    | ret u => exact I.after hq
    | next => exact hq.elim
    | brk => exact hq.elim
    | cont => exact hq.elim
theorem pe_olen {tb : Nat → Option (List W → M → Res W)} {a : Expr} {ra : Sl → M → Res W} {p pos : Pos} (hT : ∀ k sem, tb k = some sem → OwOk X T n k "__len__" sem) (hr : Room (n + 1) X.A) (hgd : X.A.guards = some []) (tk : Takes X Wx)
    (hg : Gl X "len") (hm : X.mg "len" = none) (ha : PE X a (tE T Wx ra)) (na : starEach [a] X.env = (false, eval a X.env) :: starEach [] X.env) :
    PE X (.Call (.Name "len" p) [a] [] pos) (tE T Wx (eOlen tb ra)) := by
  refine ⟨fun pins s σ H Q I h => ?_⟩
  obtain ⟨c, σw, eH, R, S, w⟩ := h
  subst eH
  refine Call_ (ld_blt I hg hm (show bootBuiltins "len" = some (.builtin "len") by decide +kernel) ?_)
  refine PyProof.Rows.callWith_builtin1 (PyProof.Rows.args_cons (thn (ha.run pins s σ c.H _ I ⟨c, σw, rfl, R, S, Wp.bind (R := RelW T) w⟩) fun v s1 hh => PyProof.Rows.args_nil ?_) na) na rfl
  obtain ⟨x, H1, I1, r1, d, wx, e1, ext, R1, rx, w1⟩ := hh
  subst e1
  unfold ownSem at w1
  split at w1
  · rename_i i
    split at w1
    · rename_i k fs hk
      split at w1
      · rename_i sem hs
        obtain ⟨a', ea, ex⟩ := (show ∃ a, _ from rx)
        obtain ⟨dx, gs, q1, q2⟩ := R1.obj i _ a' hk ea
        subst ex
        obtain rfl : v = Value.ref a' := r1
        obtain ⟨f, mm, fi, F⟩ := (hT k sem hs).ex
        obtain ⟨mA, O, _⟩ := ins_get I1.hok q1
        obtain ⟨od, J, _⟩ := O.look
        obtain ⟨m', hF⟩ := I1.fr
        refine PySem.W.len_K hF I1.ok.mod.kin J mm.at_ mm.fn ?_
        refine wpAny_mono (run_fnG1 (us := [.ref a']) (vs := [.ref a']) F hr hgd tk I1 (.cons rfl .nil) ⟨d, [.ref i], rfl, R1, RelWs.cons rx RelWs.nil, Wp.bind (R := RelW T) w1⟩) (fun u s2 q => ?_) fun _ _ z => z
        obtain ⟨z, H2, I2, rz, e, we, e2, ext2, R2, rw2, w2⟩ := q
        subst e2
        unfold asLen at w2
        split at w2
        · rename_i nn
          split at w2
          · rename_i hn
            cases rw2
            obtain ⟨t, rfl⟩ := (show ∃ t, u = Value.int nn t from rz)
            exact ⟨hn, .int nn, e.H, I2.tok _, ⟨_, rfl⟩, w2 e.ρ e.H _ (Ext.refl e) R2 rfl⟩
          · exact w2.elim
        · exact w2.elim
      · exact w1.elim
    · exact w1.elim
  · exact w1.elim
/-- what x[i] by the own def asks -/
def rOix (T : Tb) (Wx : WX) (tb : Nat → Option (List W → M → Res W)) (σ : L2.St) (Q : VK) (x y : V) (H : Hp) : Prop := ∃ (c : Cf) (a b : W), c.H = H ∧ MP.RelM T c ∧ RelW T c a x ∧ RelW T c b y ∧ Wp T Wx σ (RelW T) c (ownSem tb a [b] c.m) Q
theorem oix_t {tb : Nat → Option (List W → M → Res W)} {ra rb : Sl → M → Res W} (σ : L2.St) (H : Hp) (Q : VK) (h : tE T Wx (eOix tb ra rb) σ H Q) : tE T Wx ra σ H fun x H1 => tE T Wx rb σ H1 fun y H2 => rOix T Wx tb σ Q x y H2 := by
  obtain ⟨c, σw, eH, R, S, w⟩ := h
  refine ⟨c, σw, eH, R, S, (Wp.bind (R := RelW T) w).mono ?_⟩
  rintro x H1 ⟨d, wx, e1, ext, R1, rx, w1⟩
  refine ⟨d, σw, e1, R1, S.ext R ext, (Wp.bind (R := RelW T) w1).mono ?_⟩
  rintro y H2 ⟨d2, wy, e2, ext2, R2, ry, w2⟩
  exact ⟨d2, wx, wy, e2, R2, rx.ext R1 ext2, ry, w2⟩
/-- no slice -/
def SubT (b : Expr) : Prop := ∀ o i, subscripted b true o i = runValue (.builtin "lifetime.subscript" ⟨[o, i], []⟩)
theorem pe_oix {tb : Nat → Option (List W → M → Res W)} {a b : Expr} {ra rb : Sl → M → Res W} {pos : Pos} (hT : ∀ k sem, tb k = some sem → OwOk X T n k "__getitem__" sem) (hr : Room (n + 1) X.A) (hgd : X.A.guards = some []) (tk : Takes X Wx)
    (ha : PE X a (tE T Wx ra)) (hb : PE X b (tE T Wx rb)) (hs : SubT b) : PE X (.Subscript a b pos) (tE T Wx (eOix tb ra rb)) := by
  refine ⟨fun pins s σ H Q I h => ?_⟩
  refine Subscript_ (binT ha hb (R := rOix T Wx tb σ Q) I (oix_t σ H Q h) fun v u s2 x y H2 I2 rx ry q => ?_)
  obtain ⟨d, wx, wy, e1, R1, rwx, rwy, w1⟩ := q
  subst e1
  unfold ownSem at w1
  split at w1
  · rename_i i
    split at w1
    · rename_i k fs hk
      split at w1
      · rename_i sem hs'
        obtain ⟨a', ea, ex⟩ := (show ∃ a, _ from rwx)
        obtain ⟨dx, gs, q1, q2⟩ := R1.obj i _ a' hk ea
        subst ex
        obtain rfl : v = Value.ref a' := rx
        obtain ⟨f, mm, fi, F⟩ := (hT k sem hs').ex
        obtain ⟨mA, O, _⟩ := ins_get I2.hok q1
        obtain ⟨od, J, _⟩ := O.look
        obtain ⟨m', hF⟩ := I2.fr
        refine PySem.W.sub_K hF I2.ok.mod.kin J mm.at_ fi mm.fn ?_ (hs _ _)
        exact run_fnG1 (us := [.ref a', u]) (vs := [.ref a', y]) F hr hgd tk I2 (.cons rfl (.cons ry .nil)) ⟨d, [.ref i, wy], rfl, R1, RelWs.cons rwx (RelWs.cons rwy RelWs.nil), w1⟩
      · exact w1.elim
    · exact w1.elim
  · exact w1.elim
end
end MP
end

section
set_option maxHeartbeats 4000000
/-! MPComp2: a comprehension of two clauses, both over items that stand fast. -/
namespace MP
open PySem PySem.Spec PyProof.Rows L2

section
variable {X : Cx} {T : Tb} {Wx : WX}
structure Cp2 where
  tg : Tg
  cond : Sl → M → Res Bool
  src : Sl → M → Res Src
  inn : Cp
  vs : List Nat
def cp2Turn (p : Cp2) (σ : Sl) (w : W) (m : M) : Res (List W) := match tgSem p.tg w (wipeW σ p.vs) with
  | none => .stuck
  | some σ2 => (calm (p.cond σ2 m)).bind fun b m1 => if b = true then (calm (p.src σ2 m1)).bind fun s m2 => (match s with
      | .items ws => cpItems p.inn σ2 ws m2
      | .live _ => .stuck) else .ok [] m1
def cp2Items (p : Cp2) (σ : Sl) : List W → M → Res (List W)
  | [], m => .ok [] m
  | w :: ws, m => (cp2Turn p σ w m).bind fun r m1 => (cp2Items p σ ws m1).bind fun rs m2 => .ok (r ++ rs) m2
def cp2All (p : Cp2) (σ : Sl) (s : Src) (m : M) : Res (List W) := match s with
  | .items ws => cp2Items p σ ws m
  | .live _ => .stuck
def eComp2 (frz : Bool) (src : Sl → M → Res Src) (p : Cp2) : Sl → M → Res W := fun σ m => (src σ m).bind fun s m1 => (cp2All p σ s m1).bind (mkLst frz)
theorem grow_weak {c : Cf} {D : Addr} {acc : List V} (hD : D ∈ c.res) : ExtW c (c.grow D acc) := by
  refine ⟨⟨[], by simp [Cf.grow]⟩, fun a o e n => ⟨?_, fun z => n (grow_own.mp z)⟩⟩
  show upd c.H D _ a = _
  have ne : a ≠ D := fun z => n (.inr (by rw [z]; exact hD))
  rw [upd_ne ne]; exact e
theorem wipe_two (vs : List Nat) (s : L2.St) : L2.wipe (L2.wipe s vs) vs = L2.wipe s vs := by
  have g : ∀ us : List Nat, (∀ u ∈ us, u ∈ vs) → L2.wipe (L2.wipe s us) vs = L2.wipe s vs := by
    intro us
    induction us with
    | nil => intro _; rfl
    | cons u us ih =>
      intro hu
      show L2.wipe ((L2.wipe s us).set u none) vs = _
      rw [wipe_set, if_pos (hu u List.mem_cons_self), ih fun v hv => hu v (List.mem_cons_of_mem _ hv)]
  exact g vs fun _ h => h
/-- RelS along growing lists -/
theorem RelS.extW {c d : Cf} {σw : Sl} {σ : L2.St} (R : MP.RelM T c) (h : ExtW c d) (r : RelS T c σw σ) : RelS T d σw σ :=
  ⟨r.len, fun i w e => let ⟨v, e1, e2⟩ := r.at_ i w e; ⟨v, e1, e2.extW R h⟩⟩
/-- turn_ok, which tells that the slots' values stand -/
theorem turn_ok' {p : Cp} {c1 c c0 : Cf} {D : Addr} {done : List W} {acc : List V} {σw : Sl} {σ : L2.St} {w : W} {x : V} {Nx : Hp → Prop} (hD : c1.H D = none) (md : Mid T c1 D done c acc) (R0 : MP.RelM T c0) (x0 : ExtW c0 c) (S : RelS T c0 σw σ) (rx : RelW T c w x) (hv : ∀ i ∈ p.tg.slots, i ∈ p.vs)
    (h : ∃ (r : Option W) (m : M), cpTurn p σw w c.m = .ok r m ∧ (∀ y, r = some y → acc.length < sizeLine) ∧ ∀ c' acc', c'.m = m → ExtW c0 c' → Mid T c1 D (done ++ r.toList) c' acc' → Nx c'.H) :
    tG T p.tg x (L2.wipe σ p.vs) c.H fun σ2 H2 => L2.wipe σ2 p.vs = L2.wipe σ p.vs ∧ tB T noX p.cond σ2 H2 fun b H3 =>
      if b = true then tE T noX p.elt σ2 H3 fun y H4 => ∃ ac, H4 D = some (.lst ac) ∧ ac.length < sizeLine ∧ Nx (upd H4 D (.lst (ac ++ [y]))) else Nx H3 := by
  obtain ⟨r, m, ht, hz, hN⟩ := h
  have Sc := S.extW R0 x0
  refine ⟨c, wipeW σw p.vs, w, rfl, md.rm, Sc.wipes p.vs, rx, ?_⟩
  unfold cpTurn at ht
  split at ht
  · cases ht
  · rename_i σ2 hs
    rw [hs]
    intro τ Sτ so
    refine ⟨by rw [so p.vs hv, wipe_two], c, σ2, rfl, md.rm, Sτ, ?_⟩
    cases hc : p.cond σ2 c.m with
    | exc k fs n => rw [hc] at ht; cases ht
    | stuck => rw [hc] at ht; cases ht
    | ok b n =>
      rw [hc] at ht
      have ht : (if b = true then (calm (p.elt σ2 n)).bind fun x m2 => Res.ok (some x) m2 else Res.ok none n) = Res.ok r m := ht
      intro ρ H b' e1 e2 e3
      subst e3
      have md2 : Mid T c1 D done ⟨ρ, n, H, c.res⟩ acc := md.step e1 rfl e2
      cases b with
      | false =>
        simp only [Bool.false_eq_true, if_false] at ht ⊢
        injection ht with h1 h2
        exact hN ⟨ρ, n, H, c.res⟩ acc h2 (x0.trans e1.weak) (by rw [← h1]; simpa using md2)
      | true =>
        simp only [if_true] at ht ⊢
        refine ⟨⟨ρ, n, H, c.res⟩, σ2, rfl, e2, Sτ.ext md.rm e1, ?_⟩
        show Wp T noX τ (RelW T) _ (p.elt σ2 n) _
        cases he : p.elt σ2 n with
        | exc k fs n2 => rw [he] at ht; cases ht
        | stuck => rw [he] at ht; cases ht
        | ok y n2 =>
          rw [he] at ht
          injection (show Res.ok (some y) n2 = Res.ok r m from ht) with h1 h2
          intro ρ3 H3 yv f1 f2 f3
          have md3 : Mid T c1 D done ⟨ρ3, n2, H3, c.res⟩ acc := md2.step f1 rfl f2
          have inD : D ∈ (⟨ρ3, n2, H3, c.res⟩ : Cf).res := by rw [md3.res]; exact List.mem_cons_self
          exact ⟨acc, md3.at_, hz y h1.symm, hN (Cf.grow ⟨ρ3, n2, H3, c.res⟩ D (acc ++ [yv])) (acc ++ [yv]) h2 ((x0.trans (e1.trans f1).weak).trans (grow_weak inD)) (by rw [← h1]; exact md3.push hD f3)⟩
theorem cp2Turn_noexc (p : Cp2) (σ : Sl) (w : W) (m : M) : NoExc (cp2Turn p σ w m) := by
  intro k fs n h
  unfold cp2Turn at h
  split at h
  · cases h
  · rename_i σ2 _
    cases hc : p.cond σ2 m with
    | exc a b e => rw [hc] at h; cases h
    | stuck => rw [hc] at h; cases h
    | ok b m1 =>
      rw [hc] at h
      have h : (if b = true then (calm (p.src σ2 m1)).bind fun s m2 => (match s with | .items ws => cpItems p.inn σ2 ws m2 | .live _ => .stuck) else Res.ok [] m1) = Res.exc k fs n := h
      split at h
      · cases hs : p.src σ2 m1 with
        | exc a b e => rw [hs] at h; cases h
        | stuck => rw [hs] at h; cases h
        | ok s m2 =>
          rw [hs] at h
          cases s with
          | items ws => exact cpItems_noexc _ _ _ _ k fs n h
          | live i => cases h
      · cases h
theorem cp2Items_noexc (p : Cp2) (σ : Sl) : ∀ (ws : List W) (m : M), NoExc (cp2Items p σ ws m)
  | [], m => fun _ _ _ h => by cases h
  | w :: ws, m => fun k fs n h => by
    simp only [cp2Items] at h
    cases ht : cp2Turn p σ w m with
    | exc a b e => exact cp2Turn_noexc p σ w m a b e ht
    | stuck => rw [ht] at h; cases h
    | ok r m1 =>
      rw [ht] at h
      simp only [Res.bind] at h
      cases hr : cp2Items p σ ws m1 with
      | exc a b e => exact cp2Items_noexc p σ ws m1 a b e hr
      | stuck => rw [hr] at h; cases h
      | ok rs m2 => rw [hr] at h; cases h
theorem comp2_t {frz : Bool} {src : Sl → M → Res Src} {p : Cp2} (hv : ∀ i ∈ p.tg.slots, i ∈ p.vs) (hv1 : ∀ i ∈ p.inn.tg.slots, i ∈ p.inn.vs) (σ : St) (H : Hp) (Q : VK) (h : tE T Wx (eComp2 frz src p) σ H Q) :
    tLc2 (tI T Wx src) (tG T p.tg) (tB T noX p.cond) (tI T noX p.src) (tG T p.inn.tg) (tB T noX p.inn.cond) (tE T noX p.inn.elt) p.vs p.inn.vs σ H Q := by
  obtain ⟨c, σw, eH, R, S, w⟩ := h
  refine ⟨c, σw, eH, R, S, (Wp.bind (R := fun c' s J => SrcOk T c' J s) w).mono ?_⟩
  rintro J H1 ⟨c1, s, e1, ext, R1, sok, w1⟩ D hD
  subst e1
  have S1 := S.ext R ext
  have big : ∀ {xs : List W} {m : M}, Wp T Wx σ (RelW T) c1 (mkLst frz xs m) Q → xs.length ≤ sizeLine := fun {xs m} w => by
    unfold mkLst at w
    split at w
    · assumption
    · exact w.elim
  cases s with
  | live i => exact w1.elim
  | items ws =>
    obtain ⟨hgo, hstop, hyld⟩ := sok
    refine ⟨fun i m H => m = ws.length - i ∧ i ≤ ws.length ∧ ∃ c done acc, c.H = H ∧ Mid T c1 D done c acc ∧ Wp T Wx σ (RelW T) c1 ((cp2Items p σw (ws.drop i) c.m).bind fun xs m' => mkLst frz (done ++ xs) m') Q,
      ⟨ws.length, by simp, Nat.zero_le _, c1.open_ D, [], [], rfl, Mid.start R1 hD, w1⟩, ?_⟩
    rintro i m H ⟨rfl, hi, c, done, acc, rfl, md, wq⟩
    by_cases hlt : i < ws.length
    · refine .inr ⟨hgo i c md.ext.weak md.rm hlt, fun H' => ∃ m', m' < ws.length - i ∧ m' = ws.length - (i + 1) ∧ i + 1 ≤ ws.length ∧ ∃ c done acc, c.H = H' ∧ Mid T c1 D done c acc ∧ Wp T Wx σ (RelW T) c1 ((cp2Items p σw (ws.drop (i + 1)) c.m).bind fun xs m' => mkLst frz (done ++ xs) m') Q,
        fun H' ⟨m', a, b⟩ => ⟨m', a, b⟩, fun x H' y => ?_⟩
      have hw : ws[i]? = some ws[i] := List.getElem?_eq_getElem hlt
      obtain ⟨c', g1, g2, g3, g4, g5, g6⟩ := hyld i c _ x H' md.ext.weak md.rm hw y
      subst g1
      have md' := md.step g4 g3 g5
      have hd : ws.drop i = ws[i] :: ws.drop (i + 1) := List.drop_eq_getElem_cons hlt
      rw [hd, ← g2] at wq
      cases ht : cp2Turn p σw ws[i] c'.m with
      | exc k fs n => exact (cp2Turn_noexc _ _ _ _ k fs n ht).elim
      | stuck => simp only [cp2Items, ht, Res.bind] at wq; exact wq.elim
      | ok r n =>
        simp only [cp2Items, ht, Res.bind] at wq
        cases hr : cp2Items p σw (ws.drop (i + 1)) n with
        | exc k fs n2 => exact (cp2Items_noexc _ _ _ _ k fs n2 hr).elim
        | stuck => rw [hr] at wq; exact wq.elim
        | ok rs n2 =>
          rw [hr] at wq
          have wq : Wp T Wx σ (RelW T) c1 (mkLst frz (done ++ (r ++ rs)) n2) Q := wq
          have zb := big wq
          have nx : ∀ (c2 : Cf) (acc2 : List V), c2.m = n → Mid T c1 D (done ++ r) c2 acc2 → ∃ m', m' < ws.length - i ∧ m' = ws.length - (i + 1) ∧ i + 1 ≤ ws.length ∧ ∃ c done acc, c.H = c2.H ∧ Mid T c1 D done c acc ∧ Wp T Wx σ (RelW T) c1 ((cp2Items p σw (ws.drop (i + 1)) c.m).bind fun xs m' => mkLst frz (done ++ xs) m') Q := fun c2 acc2 em md2 => ⟨_, by omega, rfl, hlt, c2, _, acc2, rfl, md2, by
            rw [em, hr]
            show Wp T Wx σ (RelW T) c1 (mkLst frz ((done ++ r) ++ rs) n2) Q
            rw [List.append_assoc]; exact wq⟩
          have Sc := S1.ext R1 md'.ext
          refine ⟨c', wipeW σw p.vs, ws[i], rfl, md'.rm, Sc.wipes p.vs, g6, ?_⟩
          unfold cp2Turn at ht
          split at ht
          · cases ht
          · rename_i σ2 hs
            rw [hs]
            intro τ Sτ so
            refine ⟨by rw [so p.vs hv, wipe_two], c', σ2, rfl, md'.rm, Sτ, ?_⟩
            cases hc : p.cond σ2 c'.m with
            | exc k fs n' => rw [hc] at ht; cases ht
            | stuck => rw [hc] at ht; cases ht
            | ok b nb =>
              rw [hc] at ht
              have ht : (if b = true then (calm (p.src σ2 nb)).bind fun s m2 => (match s with | .items ws => cpItems p.inn σ2 ws m2 | .live _ => .stuck) else Res.ok [] nb) = Res.ok r n := ht
              intro ρ H b' f1 f2 f3
              subst f3
              have md2 : Mid T c1 D done ⟨ρ, nb, H, c'.res⟩ acc := md'.step f1 rfl f2
              cases b with
              | false =>
                simp only [Bool.false_eq_true, if_false] at ht ⊢
                injection ht with h1 h2
                exact nx ⟨ρ, nb, H, c'.res⟩ acc h2 (by rw [← h1, List.append_nil]; exact md2)
              | true =>
                simp only [if_true] at ht ⊢
                have Sb := Sτ.ext md'.rm f1
                refine ⟨⟨ρ, nb, H, c'.res⟩, σ2, rfl, f2, Sb, ?_⟩
                show Wp T noX τ _ _ (p.src σ2 nb) _
                cases hsr : p.src σ2 nb with
                | exc k fs n' => rw [hsr] at ht; cases ht
                | stuck => rw [hsr] at ht; cases ht
                | ok s n3 =>
                  rw [hsr] at ht
                  intro ρ3 H3 J1 q1 q2 q3
                  cases s with
                  | live l => cases ht
                  | items us =>
                    have ht : cpItems p.inn σ2 us n3 = .ok r n := ht
                    have md3 : Mid T c1 D done ⟨ρ3, n3, H3, c'.res⟩ acc := md2.step q1 rfl q2
                    have S3 := Sb.ext f2 q1
                    obtain ⟨kgo, kstop, kyld⟩ := q3
                    refine ⟨fun j k H => k = us.length - j ∧ j ≤ us.length ∧ ∃ c2 done2 acc2 r2, c2.H = H ∧ ExtW ⟨ρ3, n3, H3, c'.res⟩ c2 ∧ Mid T c1 D done2 c2 acc2 ∧ cpItems p.inn σ2 (us.drop j) c2.m = .ok r2 n ∧ done2 ++ r2 = done ++ r,
                      ⟨us.length, by simp, Nat.zero_le _, ⟨ρ3, n3, H3, c'.res⟩, done, acc, r, rfl, (Ext.refl _).weak, md3, ht, rfl⟩, ?_⟩
                    rintro j k H ⟨rfl, hj, c2, done2, acc2, r2, rfl, x2, m2, hc2, hd2⟩
                    by_cases hjl : j < us.length
                    · refine .inr ⟨kgo j c2 x2 m2.rm hjl, fun H' => ∃ k', k' < us.length - j ∧ k' = us.length - (j + 1) ∧ j + 1 ≤ us.length ∧ ∃ c2 done2 acc2 r2, c2.H = H' ∧ ExtW ⟨ρ3, n3, H3, c'.res⟩ c2 ∧ Mid T c1 D done2 c2 acc2 ∧ cpItems p.inn σ2 (us.drop (j + 1)) c2.m = .ok r2 n ∧ done2 ++ r2 = done ++ r,
                        fun H' ⟨k', a, b⟩ => ⟨k', a, b⟩, fun x' H' y' => ?_⟩
                      have hu : us[j]? = some us[j] := List.getElem?_eq_getElem hjl
                      obtain ⟨c4, t1, t2, t3, t4, t5, t6⟩ := kyld j c2 _ x' H' x2 m2.rm hu y'
                      subst t1
                      have m4 := m2.step t4 t3 t5
                      have hd4 : us.drop j = us[j] :: us.drop (j + 1) := List.drop_eq_getElem_cons hjl
                      rw [hd4, ← t2] at hc2
                      cases ht2 : cpTurn p.inn σ2 us[j] c4.m with
                      | exc k fs n' => exact (cpTurn_noexc _ _ _ _ k fs n' ht2).elim
                      | stuck => simp only [cpItems, ht2, Res.bind] at hc2; cases hc2
                      | ok o n4 =>
                        simp only [cpItems, ht2, Res.bind] at hc2
                        cases hr2 : cpItems p.inn σ2 (us.drop (j + 1)) n4 with
                        | exc k fs n' => exact (cpItems_noexc _ _ _ _ k fs n' hr2).elim
                        | stuck => rw [hr2] at hc2; cases hc2
                        | ok r5 n5 =>
                          rw [hr2] at hc2
                          injection hc2 with u1 u2
                          subst u1 u2
                          refine turn_ok' hD m4 q2 (x2.trans t4.weak) S3 t6 hv1 ⟨o, n4, ht2, fun y ey => ?_, fun c6 acc6 em x6 md6 => ⟨_, by omega, rfl, hjl, c6, _, acc6, r5, rfl, x6, md6, ?_, ?_⟩⟩
                          · rw [← m4.rel.length]
                            subst ey
                            have hl := congrArg List.length hd2
                            simp only [List.length_append, Option.toList, List.length_cons] at hl zb
                            omega
                          · rw [em]; exact hr2
                          · rw [List.append_assoc]; exact hd2
                    · have e : j = us.length := by omega
                      subst e
                      rw [List.drop_length] at hc2
                      injection hc2 with u1 u2
                      subst u1
                      rw [List.append_nil] at hd2
                      exact .inl ⟨kstop c2 x2 m2.rm, nx c2 acc2 u2 (hd2 ▸ m2)⟩
    · have e : i = ws.length := by omega
      subst e
      rw [List.drop_length] at wq
      refine .inl ⟨hstop c md.ext.weak md.rm, md.end_ (frz := frz) (σ := σ) (Wx := Wx) R1 hD ?_⟩
      have wq : Wp T Wx σ (RelW T) c1 (mkLst frz (done ++ []) c.m) Q := wq
      rw [List.append_nil] at wq
      exact wq
end
end MP
end

section
set_option maxHeartbeats 4000000
/-! MPDict: displays of dicts. -/
namespace MP
open PySem PySem.Spec PyProof.Rows L2

section
variable {X : Cx} {T : Tb} {Wx : WX}
/-- {}: by atoms, or by tuples -/
def newD (tk : Bool) : O := if tk then .dT [] else .dK []
def eDnew (tk : Bool) : Sl → M → Res W := fun _ m => .ok (.ref m.length) (m ++ [some (newD tk)])
theorem pe_dnew {pos : Pos} (tk : Bool) : PE X (.Dict [] [] pos) (tE T Wx (eDnew tk)) := by
  cases tk with
  | true =>
    refine PE.imp' pe_dnewT fun σ H Q h => ?_
    obtain ⟨c, σw, eH, R, S, w⟩ := h
    subst eH
    intro p hp
    have x := R.extAdd (u := .dT []) (o := .dT []) hp
    exact w (c.ρ ++ [p]) (upd c.H p (.dT [])) (.ref p) x (R.add hp ⟨[], upd_same, .nil⟩) ⟨p, Cf.add_ref R, rfl⟩
  | false =>
    refine PE.imp' pe_dnewK fun σ H Q h => ?_
    obtain ⟨c, σw, eH, R, S, w⟩ := h
    subst eH
    intro p hp
    have x := R.extAdd (u := .dK []) (o := .dK []) hp
    exact w (c.ρ ++ [p]) (upd c.H p (.dK [])) (.ref p) x (R.add hp ⟨[], upd_same, .nil⟩) ⟨p, Cf.add_ref R, rfl⟩
/-- {t: v}, t a tuple of atoms -/
def tD1 (tk tv : TE) : TE := fun σ H Q => ∀ p, H p = none → tk σ (upd H p (.dT [])) fun x H1 => tv σ H1 fun y H2 => H2 p = some (.dT []) ∧ ∃ b k, x = .ref b ∧ H2 b = some (.tup (k.map kV)) ∧ Q (.ref p) (upd H2 p (.dT [(k, y)]))
theorem pe_d1 {k v : Expr} {pos : Pos} {tk tv : TE} (hu : X.A.units + 64 < cLine) (hk : PE X k tk) (hv : PE X v tv) : PE X (.Dict [some k] [v] pos) (tD1 tk tv) := by
  refine ⟨fun pins s σ H Q I h => ?_⟩
  have hn := I.hok.fresh (Nat.le_refl s.heap.objs.size)
  have I1 := I.laid (a := s.heap.objs.size) (o := .dT []) (h' := s.heap.push { cls := .type "dict", data := .dict #[] }) (t' := s.toks) (fun _ _ q => Heap.get?_push_of_some _ q) (Nat.le_refl _) (dt_empty s.heap I.big)
  rw [arm_eval_Dict, zip_pairTrees [some k] [v] X.env pos rfl rfl, dictDisplay_pairs _ (by simp [pairTrees]) (by simp [pairTrees])]
  refine wpAny_bind (wpAny_standAt (wpAny_bind ?_))
  unfold subDict
  refine wpAny_bind (wpAny_alloc (wpAny_bind (wpAny_holding ?_)))
  rw [if_pos (show (pairTrees [some k] [v] X.env pos).length ≤ 15 by simp [pairTrees])]
  refine wpAny_bind (pairTrees_cons_walk (thn (hk.run pins _ σ _ _ I1 (h _ hn)) fun u s1 hh => ?_))
  obtain ⟨x, H1, J1, rx, q1⟩ := hh
  refine thn (hv.run pins s1 σ H1 _ J1 q1) fun u2 s2 hh => ?_
  obtain ⟨y, H2, J2, ry, e2, b, ks, ex, eb, q2⟩ := hh
  subst ex
  obtain rfl : u = Value.ref b := rx
  refine pairTrees_nil_walk ?_
  refine wpAny_holding ?_
  obtain ⟨z, hd, xs, rel, dd⟩ := dt_of J2.hok e2
  cases rel
  rw [List.forIn_cons]
  refine wpAny_bind ?_
  refine wpAny_bind ?_
  show wpAny _ _ (dictSet s.heap.objs.size (Value.ref b) u2 >>= fun _ => pure (ForInStep.yield PUnit.unit)) _ _ _
  refine wpAny_bind (wpAny_dictSet_heap (hsz := by show 0 ≤ sizeLine; omega) (by show X.A.units < cLine; omega) (key_of J2.hok eb) dd fun h' dd' hs => wpAny_pure ?_)
  show wpAny _ _ (forIn ([] : List (Value × Value)) PUnit.unit _) _ _ _
  rw [List.forIn_nil]
  refine wpAny_pure (wpAny_pure (wpAny_pure (wpAny_pure ?_)))
  obtain ⟨q, es, ep, hq, h2, h3, h4, _, h5⟩ := dd'
  refine ⟨.ref s.heap.objs.size, _, ?_, rfl, q2⟩
  have rp : KT H2 (putK [] ks y) (storedH [] ks b u2) := KT.put (kvs := []) (xs := []) .nil ks eb ry
  refine d_write J2 (by rw [e2]; exact True.intro) hs ⟨q, hq⟩ ⟨by show 1 ≤ sizeLine; rw [sizeLine_eq]; omega, hd, _, rp.keeps fun c ys ec => ?_, q, es, ep, hq, h2, h3, h4, h5⟩
  rw [upd_ne (ne_of ec e2 (fun z => nomatch z))]
  exact ec
def keysOf1 (w : W) : Option (List Key) := match w with
  | .tup xs => xs.mapM keyOf
  | _ => none
def eD1 (rk rv : Sl → M → Res W) : Sl → M → Res W := fun σ m => (rk σ (m ++ [some (.dT [])])).bind fun x m1 => (rv σ m1).bind fun y m2 => match keysOf1 x with
  | some ks => match m2[m.length]? with
    | some (some (.dT [])) => .ok (.ref m.length) (m2.set m.length (some (.dT [(ks, y)])))
    | _ => .stuck
  | none => .stuck
theorem eD1_t {rk rv : Sl → M → Res W} (σ : St) (H : Hp) (Q : VK) (h : tE T Wx (eD1 rk rv) σ H Q) : tD1 (tE T Wx rk) (tE T Wx rv) σ H Q := by
  obtain ⟨c, σw, eH, R, S, w⟩ := h
  subst eH
  intro p hp
  have x0 := R.extAdd (u := .dT []) (o := .dT []) hp
  have R0 := R.add (u := .dT []) (o := .dT []) hp ⟨[], upd_same, .nil⟩
  have w0 := Wp.ext w x0
  have rp : RelW T (c.add p (.dT []) (.dT [])) (.ref c.m.length) (.ref p) := ⟨p, Cf.add_ref R, rfl⟩
  refine ⟨c.add p (.dT []) (.dT []), σw, rfl, R0, S.ext R x0, (Wp.bind (R := RelW T) w0).mono ?_⟩
  rintro x H1 ⟨d, wx, e1, ext, R1, rx, w1⟩
  refine ⟨d, σw, e1, R1, (S.ext R x0).ext R0 ext, (Wp.bind (R := RelW T) w1).mono ?_⟩
  rintro y H2 ⟨d2, wy, e2, ext2, R2, ry, w2⟩
  subst e2
  split at w2
  · rename_i ks hks
    split at w2
    · rename_i hm
      obtain ⟨a, ea, ev⟩ := (show ∃ a, _ from (rp.ext R0 ext).ext R1 ext2)
      cases ev
      obtain ⟨us, q1, q2⟩ := R2.obj _ _ p hm ea
      cases q2
      refine ⟨q1, ?_⟩
      unfold keysOf1 at hks
      split at hks
      · rename_i xs
        obtain ⟨b, vs, f1, f2, f3⟩ := (show ∃ a vs, _ from rx.ext R1 ext2)
        have f4 := keysOf_rel hks f3
        subst f4
        refine ⟨b, ks, f1, f2, ?_⟩
        have ne : b ≠ p := fun z => by rw [z, q1] at f2; cases f2
        have x3 := RelM.extChg (c := d2) (u := .dT [(ks, y)]) (o := .dT [(ks, wy)]) hm ea
        have R3 := R2.chg (u := .dT [(ks, y)]) (o := .dT [(ks, wy)]) hm ea ⟨[(ks, y)], upd_same, .cons ⟨rfl, ry.ext R2 x3⟩ .nil⟩
        exact w2 d2.ρ _ (.ref p) x3 R3 ⟨p, ea, rfl⟩
      · cases hks
    · exact w2.elim
  · exact w2.elim
end
end MP
end

section
set_option maxHeartbeats 4000000
/-! MPKget: D.get(key), D.get(key, other), D a dict of the text with text keys. -/
namespace MP
open PySem PySem.Spec PyProof.Rows L2

inductive At where
  | non | bl (b : Bool) | int (i : Int) | str (x : Str)
def At.w : At → W
  | .non => .non
  | .bl b => .bl b
  | .int i => .int i
  | .str x => .str x
def At.v : At → V
  | .non => .non
  | .bl b => .bl b
  | .int i => .int i
  | .str x => .str x
theorem At.rel {T : Tb} {c : Cf} (a : At) : RelW T c a.w a.v := by cases a <;> rfl
theorem At.rels {T : Tb} {c : Cf} : ∀ l : List At, RelWs T c (l.map At.w) (l.map At.v)
  | [] => RelWs.nil
  | a :: l => RelWs.cons a.rel (At.rels l)
def tabGet (tab : List (Str × At)) (z : Str) : Option At := (tab.find? fun q => decide (q.1 = z)).map (·.2)
def entB (e : DictEntry) (q : Str × At) : Bool := match e.key with
  | .str x _ => decide (x = q.1) && He.relB q.2.v e.val
  | _ => false
def entsB : List DictEntry → List (Str × At) → Bool
  | [], [] => true
  | e :: l, q :: tab => entB e q && entsB l tab
  | _, _ => false
theorem entsB_ok : ∀ {l : List DictEntry} {tab : List (Str × At)}, entsB l tab = true → l.any (·.refKey) = false ∧ ∀ z, match tabGet tab z with
    | none => l.find? (·.key.isStr z) = none
    | some x => ∃ e, l.find? (·.key.isStr z) = some e ∧ RelV x.v e.val
  | [], [], _ => ⟨rfl, fun z => rfl⟩
  | [], _ :: _, h => by cases h
  | _ :: _, [], h => by cases h
  | e :: l, q :: tab, h => by
    simp only [entsB, Bool.and_eq_true] at h
    obtain ⟨h1, h2⟩ := h
    obtain ⟨a1, a2⟩ := entsB_ok h2
    unfold entB at h1
    split at h1
    · rename_i x tk hk
      simp only [Bool.and_eq_true, decide_eq_true_eq] at h1
      obtain ⟨hx, hr⟩ := h1
      refine ⟨by simp only [List.any_cons, a1, Bool.or_false]; unfold DictEntry.refKey; rw [hk], fun z => ?_⟩
      by_cases hz : q.1 = z
      · have e1 : tabGet (q :: tab) z = some q.2 := by unfold tabGet; simp [hz]
        rw [e1]
        exact ⟨e, by rw [List.find?_cons, hk]; simp [Value.isStr, hx, hz], He.relB_ok hr⟩
      · have e1 : tabGet (q :: tab) z = tabGet tab z := by unfold tabGet; simp [hz]
        have e2 : (e :: l).find? (·.key.isStr z) = l.find? (·.key.isStr z) := by
          rw [List.find?_cons, hk]
          have : Value.isStr (.str x tk) z = false := by
            show (x == z) = false
            rw [hx]; simpa using hz
          rw [this]
        rw [e1, e2]
        exact a2 z
    · cases h1
structure KdOk (K : PySem.W.Frag) (w : World) (a : Addr) (tab : List (Str × At)) : Prop where
  kd : ∃ es n, KDict K w a es n
  at_ : ∀ z, ∃ r, PySem.W.nsIn K a z = some r ∧ match tabGet tab z with
    | none => r = none
    | some x => ∃ u, r = some u ∧ RelV x.v u
def kdB (K : PySem.W.Frag) (a : Addr) (tab : List (Str × At)) : Bool := match K.lookup a with
  | some ⟨_, _, .dict es _, _⟩ => entsB es.toList tab
  | _ => false
theorem kdB_ok {K : PySem.W.Frag} {w : World} {a : Addr} {tab : List (Str × At)} (h : kdB K a tab = true) (hk : ∃ es n, KDict K w a es n) : KdOk K w a tab := by
  refine ⟨hk, fun z => ?_⟩
  obtain ⟨es, n, D⟩ := hk
  unfold kdB at h
  rw [D.at_] at h
  obtain ⟨h1, h2⟩ := entsB_ok h
  have q := h2 z
  unfold PySem.W.nsIn
  rw [D.at_]
  dsimp only
  split at q
  · rename_i e
    rw [q, h1]
    exact ⟨none, rfl, rfl⟩
  · rename_i x e
    obtain ⟨d, e1, e2⟩ := q
    rw [e1]
    exact ⟨some d.val, rfl, d.val, rfl, e2⟩
section
variable {X : Cx} {T : Tb} {Wx : WX}
def kgetSem (tab : List (Str × At)) (ws : List W) (m : M) : Res W := match ws with
  | [.str z] => .ok (((tabGet tab z).map At.w).getD .non) m
  | [.str z, d] => .ok (((tabGet tab z).map At.w).getD d) m
  | _ => .stuck
theorem kget_call {a : Addr} {tab : List (Str × At)} (D : KdOk X.K X.w a tab) {pins : List (Addr × Obj)} {σ : L2.St} {s : Shared} {c : Cf} {ws : List W} {vs : List V} {us : List Value} {Q : VK} (I : Inv X pins σ c.H s) (R : MP.RelM T c) (r : RelWs T c ws vs) (ru : Vals vs us) (w : Wp T noX [] (RelW T) c (kgetSem tab ws c.m) Q) :
    wpAny (model X.prog X.w) X.A (call (.builtin "dict.get") (.ref a :: us)) (EP X pins σ Q) X.xe s := by
  obtain ⟨es, n, kd⟩ := D.kd
  have mo := PySem.W.mapOf_K (prog := X.prog) (w := X.w) I.kIn kd.at_ kd.lit
  unfold kgetSem at w
  split at w
  · rename_i z
    obtain ⟨x, rfl, rx⟩ := one_arg r
    cases rx
    obtain ⟨u, rfl, t, rfl⟩ := vals1 ru
    obtain ⟨rr, e1, e2⟩ := D.at_ z
    refine call_meetsIn PySem.F.slot_dict_get mo.typeIs PySem.F.entry_dict_get (PySem.F.args_dict_get_2 _ _) (meets_dict_get (strKind X.prog X.w) a (strKind_is X.prog X.w z t) kd.low) ⟨_, mo, ?_⟩
    rw [PySem.W.find_K kd.at_ e1]
    split at e2
    · rename_i hn
      subst e2
      rw [hn] at w
      exact ⟨.non, c.H, I.tok _, rfl, w c.ρ c.H .non (Ext.refl c) R rfl⟩
    · rename_i y hy
      obtain ⟨u', e3, e4⟩ := e2
      subst e3
      rw [hy] at w
      exact ⟨y.v, c.H, I.tok _, e4, w c.ρ c.H y.v (Ext.refl c) R y.rel⟩
  · rename_i z d
    obtain ⟨x, dv, rfl, rx, rd⟩ := two_args r
    cases rx
    cases ru with
    | cons r1 rr1 =>
      cases rr1 with
      | cons r2 rr2 =>
        cases rr2
        obtain ⟨t, rfl⟩ := r1
        obtain ⟨rr, e1, e2⟩ := D.at_ z
        refine call_meetsIn PySem.F.slot_dict_get mo.typeIs PySem.F.entry_dict_get (PySem.F.args_dict_get_3 _ _ _) (meets_dict_get_default (strKind X.prog X.w) a (strKind_is X.prog X.w z t) kd.low _) ⟨_, mo, ?_⟩
        rw [PySem.W.find_K kd.at_ e1]
        split at e2
        · rename_i hn
          subst e2
          rw [hn] at w
          exact ⟨dv, c.H, I.tok _, r2, w c.ρ c.H dv (Ext.refl c) R rd⟩
        · rename_i y hy
          obtain ⟨u', e3, e4⟩ := e2
          subst e3
          rw [hy] at w
          exact ⟨y.v, c.H, I.tok _, e4, w c.ρ c.H y.v (Ext.refl c) R y.rel⟩
  · exact w.elim
theorem kgetSem_noexc (tab : List (Str × At)) (ws : List W) (m : M) : NoExc (kgetSem tab ws m) := by
  intro k fs n
  unfold kgetSem
  split <;> simp
/-- D.get(..) -/
theorem pe_kget {a : Addr} {tab : List (Str × At)} {x : Str} {p apos cpos : Pos} {e : Expr} {es : List Expr} {rs : Sl → M → Res (List W)} (D : KdOk X.K X.w a tab) (hg : Gl X x) (hm : X.mg x = some (.ref a)) (hdb : (x == ("__debug__" : Str)) = false) (ha : PA X (e :: es) (tEs T Wx rs))
    (hfew : ((backTo cpos (starEach (e :: es) X.env)).all (fun x => !x.1) && (backToKw cpos (keywordEach [] X.env)).all (fun x => x.1.isSome)
      && decide ((e :: es).length + ([] : List Keyword).length + (if ([] : List Keyword).isEmpty then 0 else 1) < 30)) = true) (hline : (apos.endLine == cpos.line) = true)
    (hs : starEach (e :: es) X.env = (false, eval e X.env) :: starEach es X.env) (hplain : (backTo cpos (starEach es X.env)).any (·.1) = false) :
    PE X (.Call (.Attribute (.Name x p) "get" apos) (e :: es) [] cpos) (tE T Wx (eCall (kgetSem tab) rs)) := by
  refine ⟨fun pins s σ H Q I h => ?_⟩
  obtain ⟨c, σw, eH, R, S, w⟩ := h
  subst eH
  obtain ⟨es0, n, kd⟩ := id D.kd
  refine wpAny_Call_method_late rfl hfew hline rfl (ld_glob I hg hm ?_ hdb)
  have mo := PySem.W.mapOf_K (prog := X.prog) (w := X.w) I.kIn kd.at_ kd.lit
  refine ⟨"dict", "dict.get", PySem.F.plainAttrs_dict, PySem.F.slot_dict_get, PySem.F.type_dict_get, mo.typeIs, fun b eb => ?_, ?_⟩
  · cases eb
    exact ⟨_, I.kIn _ _ kd.at_, rfl⟩
  · have hA := ha.run cpos pins s σ c.H _ I ⟨c, σw, rfl, R, S, Wp.bind (R := RelWs T) w⟩
    rw [hs] at hA ⊢
    refine Calls.callWith_builtin (by show (false || (backTo cpos (starEach es X.env)).any (·.1)) = false; rw [hplain] <;> rfl) (Calls.evalArgs_plain ?_)
    refine thn hA fun us s2 hh => ?_
    obtain ⟨vs, H2, I2, r2, d, ws, e1, ext, R1, rx, w1⟩ := hh
    subst e1
    exact kget_call D I2 R1 rx r2 (w1.noX_of (kgetSem_noexc _ _ _))
end
end MP
end

section
set_option maxHeartbeats 4000000
/-! MPSet: len(set(xs)), xs a list of texts. -/
namespace MP
open PySem PySem.Spec PyProof.Rows L2

def uqS (l : List Str) (x : Str) : List Str := if l.any (· == x) then l else l ++ [x]
def uq (l : List Str) : List Str := l.foldl uqS []
theorem uq_take {xs : List Str} {i : Nat} (h : i < xs.length) : uq (xs.take (i + 1)) = uqS (uq (xs.take i)) (xs.getD i Str.empty) := by
  unfold uq
  rw [List.take_succ_eq_append_getElem h, List.foldl_append]
  simp [h]
theorem uqS_any (l : List Str) (x z : Str) : (uqS l x).any (· == z) = (l.any (· == z) || decide (z = x)) := by
  unfold uqS
  split
  · rename_i h
    by_cases e : z = x
    · subst e; simp [h]
    · simp [e]
  · rw [List.any_append]
    congr 1
    by_cases e : z = x
    · subst e; simp
    · have : (x == z) = false := by simpa using fun q : x = z => e q.symm
      simp [this, e]
theorem uqS_len (l : List Str) (x : Str) : (uqS l x).length = if l.any (· == x) then l.length else l.length + 1 := by
  unfold uqS
  split <;> simp
theorem uq_le : ∀ (l : List Str), (uq l).length ≤ l.length := by
  have g : ∀ (l acc : List Str), (l.foldl uqS acc).length ≤ acc.length + l.length := by
    intro l
    induction l with
    | nil => intro acc; simp
    | cons a l ih =>
      intro acc
      have := ih (uqS acc a)
      rw [uqS_len] at this
      rw [List.foldl_cons, List.length_cons]
      split at this <;> omega
  intro l
  simpa [uq] using g l []
section
variable {prog : Program} {w : World} {A : Around} {R : Result → Shared → Prop} {J : Addr} {fp wr : List Addr} {G : Array GenState → Array GenState → Prop} {n : Nat} {P : Nat → Value → Prop} {St : Nat → Shared → Prop}
abbrev SetS (prog : Program) (w : World) (h : Heap) (S : Addr) (l : List Str) : Prop := h.SetOf (PySem.strKind prog w) S (fun z => l.any (· == z)) l.length
theorem SetS.at {h h' : Heap} {S : Addr} {l : List Str} (x : SetS prog w h S l) (k : ∀ o, h.get? S = some o → h'.get? S = some o) : SetS prog w h' S l := by
  obtain ⟨o, es, ep, t, ho, r⟩ := x
  exact ⟨o, es, ep, t, k o ho, r⟩
theorem set_loop (Wk : WalksS prog w A.in1 J fp wr G n P St) (S : Addr) (nS : S ∉ fp) (xs : List Str) (hl : xs.length = n) (hb : n + 1 < scanBound) (hv : ∀ i v, P i v → ∃ t, v = .str (xs.getD i Str.empty) t) :
    ∀ (k i : Nat) (s : Shared), n - i = k → i ≤ n → St i s → SetS prog w s.heap S (uq (xs.take i)) → (∀ s', Moved (S :: wr) G s s' → SetS prog w s'.heap S (uq xs) → R (.ok (.ret .none)) s') →
      codeAny (model prog w) A (.builtin "set.update.loop" ⟨[.ref S, .ref J], []⟩) R s := by
  have nW : S ∉ wr := fun q => nS (Wk.sub _ q)
  have up : ∀ b ∈ wr, b ∈ S :: wr := fun b q => List.mem_cons_of_mem _ q
  intro k
  induction k with
  | zero =>
    intro i s hk hi st zs fin
    obtain rfl : i = n := by omega
    refine codeAny_builtin PyProof.Rows.F.entry_set_update_loop ?_
    rw [Around.under_plainId PyProof.Rows.F.plain_set_update_loop _]
    show wpAny _ A.in1 (pyNext (.ref J) >>= _) _ _ s
    refine wpAny_bind (Wk.done s _ _ st fun s' mv => ?_)
    show wpAny _ A.in1 (ret Value.none) _ _ s'
    refine wpAny_pure (fin s' (mv.mono up) ?_)
    have := zs.at (h' := s'.heap) fun o q => mv.heap S _ nW q
    rwa [List.take_of_length_le (by omega)] at this
  | succ k ih =>
    intro i s hk hi st zs fin
    have lt : i < n := by omega
    refine codeAny_builtin PyProof.Rows.F.entry_set_update_loop ?_
    rw [Around.under_plainId PyProof.Rows.F.plain_set_update_loop _]
    show wpAny _ A.in1 (pyNext (.ref J) >>= _) _ _ s
    refine wpAny_bind (Wk.item i s _ _ lt st fun v s' hp st' mv => ?_)
    obtain ⟨t, rfl⟩ := hv i v hp
    have zs' := zs.at (h' := s'.heap) fun o q => mv.heap S _ nW q
    show wpAny _ A.in1 (holding [Value.str (xs.getD i Str.empty) t] (setAdd S (.str (xs.getD i Str.empty) t)) >>= _) _ _ s'
    refine wpAny_bind (wpAny_holding ?_)
    unfold setAdd
    refine wpAny_holding (wpAny_bind ((PySem.strKind prog w).pyHash (k := xs.getD i Str.empty) (strKind_is _ _ _ _) ?_))
    have le := uq_le (xs.take i)
    rw [List.length_take] at le
    refine wpAny_setAddHashed_of (knd := PySem.strKind prog w) (s := { s' with toks := s'.toks + 1 }) (strKind_is _ _ _ _) rfl zs' (by omega) fun h' sb z2 => ?_
    have z3 : SetS prog w h' S (uq (xs.take (i + 1))) := by
      rw [uq_take (by omega)]
      exact SetOf_congr z2 (fun z => (uqS_any _ _ _).symm) (uqS_len _ _).symm
    refine wpAny_pure ⟨plainId_quiet PyProof.Rows.F.plain_set_update_loop _, ih (i + 1) _ (by omega) lt (Wk.frame _ s' _ _ st' (Nat.le_succ _) fun b hb o e => ?_) z3 fun s2 mv2 z4 => ?_⟩
    · rw [sb.2 b fun q => nS (by rw [← q]; exact hb)]; exact e
    · refine fin s2 (Moved.trans Wk.gtrans ((mv.mono up).then_heap (Nat.le_succ _) fun b o hb e => ?_) mv2) z4
      rw [sb.2 b fun q => hb (by rw [q]; exact List.mem_cons_self)]; exact e
end
section
variable {prog : Program} {w : World} {A : Around} {E : Value → Shared → Prop} {s : Shared}
/-- the set, ahead of its first item -/
abbrev set0 (led : Bool) : Obj := { cls := .type "set", dict := none, data := .set #[] 0 (.fresh 0 0 led) }
set_option maxHeartbeats 6400000 in
theorem set_of_list {l : Addr} {its : Array Value} {xs : List Str} {Q : Value → Shared → Prop} (calm : A.handled = none) (isl : s.heap.IsList l its) (ar : PyProof.Rows.StrsAre its.toList xs) (few : its.size + 1 < scanBound)
    (q : ∀ (h' : Heap) (tk : Nat), SetS prog w h' s.heap.objs.size (uq xs) → (∀ b o, b < s.heap.objs.size → s.heap.get? b = some o → h'.get? b = some o) → Q (.ref s.heap.objs.size) { s with heap := h', toks := tk }) :
    wpAny (model prog w) A (call (.type "set") [.ref l]) Q E s := by
  obtain ⟨c, tl, z0⟩ := PySem.F.called_set.mro
  have z1 := PySem.F.called_set.made
  have z2 := PySem.F.called_set.sub
  refine wpAny_call (codeAny_of_tree ?_)
  show wpAny _ _ (callAny (.type "set") _) _ _ _
  refine wpAny_pure ⟨Code.quiet_builtin _ (by decide +kernel), codeAny_builtin PySem.F.entry_type_call ?_⟩
  rw [Around.under_plain (weight_type_call_type "set" [.ref l] []) rfl]
  have z3 := PySem.F.called_set.notType
  have z4 := PySem.F.called_set.canCreate
  have z5 := PySem.F.typeCall_set_1 (.ref l)
  repeat (any_goals first | (assumption; done) | wp_step)
  refine codeAny_mono (code_set_new_1 (.ref l) (E := E) (Q₁ := fun u s₁ => ∃ led : Bool, u = .ref s.heap.objs.size ∧ s₁ = { s with heap := s.heap.push (set0 led) }) fun led => ⟨led, rfl, rfl⟩) fun r s₁ hr => ?_
  cases r with
  | error e => exact hr
  | ok fl =>
    cases fl with
    | ret u =>
      obtain ⟨led, rfl, rfl⟩ := hr
      have g0 : (s.heap.push (set0 led)).get? s.heap.objs.size = some (set0 led) := Heap.get?_push_size _ rfl
      have t0 : Shared.TypeIs { s with heap := s.heap.push (set0 led) } (.ref s.heap.objs.size) "set" := ⟨_, g0, rfl⟩
      have z6 := PySem.F.called_set.init.lookup
      have z7 := PySem.F.called_set.init.bind (.ref s.heap.objs.size)
      repeat (any_goals first | (assumption; done) | wp_step)
      refine codeAny_mono (codeAny_call_builtin (R := wants (fun r s₂ => r = .none ∧ ∃ h' tk, s₂ = { s with heap := h', toks := tk } ∧ SetS prog w h' s.heap.objs.size (uq xs) ∧ (∀ b o, b < s.heap.objs.size → s.heap.get? b = some o → h'.get? b = some o)) E)
        PySem.F.called_set.init.plain PySem.F.entry_set_init (check_set_init_1 t0 ?_)) fun r₂ s₂ hr₂ => ?_
      · obtain ⟨⟨oc, od, dt, os⟩, go, gc, nl, gd⟩ := isl
        simp only at gc gd
        subst gc gd
        have go' : (s.heap.push (set0 led)).get? l = some { cls := .type "list", dict := od, data := .seq its nl, slots := os } := Heap.get?_push_of_some _ go
        have y1 := PySem.F.sub_list_set
        have y2 := PySem.F.sub_list_frozenset
        have y3 : (Value.type "list" == Value.type "dict") = false := by decide
        have isl1 : (s.heap.push (set0 led)).IsList l its := ⟨_, go', rfl, nl, rfl⟩
        unfold Builtin.«set.__init__» noKeywords Builtin.Frozenset.updateFrom
        generalize hPy : pyIter = PyI
        wp_walk
        subst hPy
        refine wpAny_pyIter_list isl1 (wpAny_bind (wpAny_runValue ?_))
        have ll : l < s.heap.objs.size := Heap.lt_size go
        have c3 : A.in1.in1.in1.handled = none := by simp [calm]
        have n1 : l ≠ (s.heap.push (set0 led)).objs.size := by rw [Heap.size_push]; exact Nat.ne_of_lt (Nat.lt_succ_of_lt ll)
        have n2 : s.heap.objs.size ∉ [(s.heap.push (set0 led)).objs.size, l] := by
          rw [Heap.size_push]
          simp only [List.mem_cons, List.not_mem_nil, or_false, not_or]
          exact ⟨Nat.ne_of_lt (Nat.lt_succ_self _), Nat.ne_of_gt ll⟩
        have sz : xs.length = its.size := by rw [← StrsAre.len_eq ar, Array.length_toList]
        have at_ : ∀ (i : Nat) (v : Value), its[i]? = some v → ∃ t, v = .str (xs.getD i Str.empty) t := fun i v e => SS.strs_at ar i v (by rw [Array.getElem?_toList]; exact e)
        refine set_loop ((Walks.list c3 _ l n1 its).toS) s.heap.objs.size n2 xs sz few at_ (its.size - 0) 0 _ (by omega) (Nat.zero_le _) ⟨⟨_, Heap.get?_push_size _ rfl, rfl, rfl⟩, (isl1.push _)⟩ ?_ ?_
        · have g1 : ((s.heap.push (set0 led)).push { cls := .type "list_iterator", data := .fields #[.ref l, .int 0 0] }).get? s.heap.objs.size = some (set0 led) := Heap.get?_push_of_some _ g0
          exact PyProof.Rows.SetOf_congr ((PyProof.Rows.setObjOf_fresh (knd := PySem.strKind prog w) led).setOf g1 (by unfold scanBound; omega)) (fun _ => rfl) rfl
        · intro s' mv z8
          obtain ⟨h', g', d', tk', os'⟩ := s'
          obtain rfl : g' = s.gens := mv.gens
          obtain rfl : d' = s.drawn := mv.drawn
          obtain rfl : os' = s.os := mv.os
          refine wpAny_pure ?_
          show wpAny _ _ (ret Value.none) _ _ _
          refine wpAny_pure ⟨rfl, h', tk', rfl, z8, fun b o hb e => ?_⟩
          refine mv.heap b o ?_ (Heap.get?_push_of_some _ (Heap.get?_push_of_some _ e))
          simp only [List.mem_cons, List.not_mem_nil, or_false, not_or]
          exact ⟨Nat.ne_of_lt hb, by rw [Heap.size_push]; exact Nat.ne_of_lt (Nat.lt_succ_of_lt hb)⟩
      · cases r₂ with
        | error e => exact hr₂
        | ok fl₂ =>
          cases fl₂ with
          | ret r =>
            obtain ⟨rfl, h', tk, rfl, z9, kp⟩ := hr₂
            repeat (any_goals first | (assumption; done) | wp_step)
            exact q _ _ z9 kp
          | _ => exact hr₂.elim
    | _ => exact hr.elim
end
end MP
end

section
set_option maxHeartbeats 4000000
/-! MPNset: len(set(xs)) as a tree. -/
namespace MP
open PySem PySem.Spec PyProof.Rows L2

section
variable {X : Cx} {T : Tb} {Wx : WX}
def strsW (xs : List W) : Option (List Str) := xs.mapM isStr
def nsetSem (a : W) (m : M) : Res W := match rdL m a with
  | some xs => match xs.mapM isStr with
    | some ss => if ss.length + 1 < scanBound then .ok (.int (uq ss).length) m else .stuck
    | none => .stuck
  | none => .stuck
theorem nsetSem_noexc (a : W) (m : M) : NoExc (nsetSem a m) := by
  intro k fs n
  unfold nsetSem
  (repeat' split) <;> simp
theorem pe_nset {a : Expr} {ra : Sl → M → Res W} {p p2 q pos : Pos} (hK : X.K = T.K) (hc : X.calm = true) (hg : Gl X "len") (hm : X.mg "len" = none) (hg2 : Gl X "set") (hm2 : X.mg "set" = none) (ha : PE X a (tE T Wx ra)) (na : starEach [a] X.env = (false, eval a X.env) :: starEach [] X.env) :
    PE X (.Call (.Name "len" p) [.Call (.Name "set" p2) [a] [] q] [] pos) (tE T Wx (one ra nsetSem)) := by
  refine ⟨fun pins s σ H Q I h => ?_⟩
  obtain ⟨c, σw, eH, R, S, w⟩ := h
  subst eH
  refine Call_ (ld_blt I hg hm (show bootBuiltins "len" = some (.builtin "len") by decide +kernel) ?_)
  refine PyProof.Rows.callWith_builtin1 (PyProof.Rows.args_cons ?_ rfl) rfl rfl
  refine Call_ (ld_blt I hg2 hm2 (show bootBuiltins "set" = some (.type "set") by decide +kernel) ?_)
  refine PyProof.Rows.callWith_type1 (PyProof.Rows.args_cons (thn (ha.run pins s σ c.H _ I ⟨c, σw, rfl, R, S, Wp.bind (R := RelW T) w⟩) fun v s1 hh => PyProof.Rows.args_nil ?_) na) na rfl
  obtain ⟨x, H1, I1, r1, d, wx, e1, ext, R1, rx, w1⟩ := hh
  subst e1
  unfold nsetSem at w1
  split at w1
  · rename_i xs hx
    split at w1
    · rename_i ss hss
      split at w1
      · rename_i hb
        obtain ⟨l, vs, e2, sq, rv⟩ := rdL_rel R1 hx rx
        have ev := strs_rel hss rv
        subst e2 ev
        cases r1
        obtain ⟨its, r, pl, hz⟩ := I1.list (hK ▸ sq)
        have hl : its.toArray.size = ss.length := by rw [List.size_toArray, ← r.length, List.length_map]
        refine set_of_list (I1.ok.hd hc) pl.isList (by simpa using strsAre_of r) (by rw [hl]; exact hb) fun h' tk hS hk => PyProof.Rows.args_nil ?_
        obtain ⟨o, es, ep, t, ho, hex, hd, _, _, _, hf, hn⟩ := hS
        have I2 : Inv X pins σ d.H { s1 with heap := h', toks := tk } := I1.kept fun b o e => hk b o (Heap.lt_size e) e
        have le := uq_le ss
        refine call_len_set ho hex hd hf (by rw [hn]; unfold scanBound at hb; omega) ⟨.int (uq ss).length, d.H, I2.tok _, ⟨_, by rw [hn]⟩, w1 d.ρ d.H _ (Ext.refl d) R1 rfl⟩
      · exact w1.elim
    · exact w1.elim
  · exact w1.elim
end
end MP
end

section
set_option maxHeartbeats 4000000
/-! MPSyn: the trees of the small interpreter, their value, and the look that says which tree of the text they stand for. -/
namespace MP
open PySem PySem.Spec PyProof.Rows L2

mutual
inductive E where
  | var (i : Nat)
  | non | tt | ff | int (i : Int) | str (x : Str)
  | glo (k : Nat)
  | tup (es : Es)
  | lst (frz : Bool) (es : Es)
  | bin (op : BOp) (frz : Bool) (a b : E)
  | cmp (op : COp) (a b : E)
  | chn (o1 o2 : COp) (a b c : E)
  | andL (es : Es)
  | orL (es : Es)
  | not (a : E)
  | ite (t : B) (a b : E)
  | bf (f : BF) (es : Es)
  | bm (f : BM) (o : E) (es : Es)
  | ix (a b : E)
  | sl (frz : Bool) (a : E) (lo hi : OE)
  | isa (a : E) (t : Ty)
  | fld (f : Nat) (o : E)
  | call (i : Nat) (es : Es)
  | meth (fi : Nat) (o : E) (es : Es)
  | make (k : Nat) (es : Es)
  | comp (frz : Bool) (src : Ie) (tg : Tg) (own : List (Str × Nat)) (cs : Cs) (e : E)
  | dct0 (tk : Bool)
  | dct1 (k v : E)
  | kget (k : Nat) (es : Es)
  | nset (a : E)
  | ngi (i : Int)
  | frz (a : E)
  | neg (a : E)
  | olen (fi : Nat) (a : E)
  | oix (fi : Nat) (a b : E)
  | comp2 (frz : Bool) (src : Ie) (tg : Tg) (own : List (Str × Nat)) (cs : Cs) (src1 : Ie) (tg1 : Tg) (own1 : List Nat) (cs1 : Cs) (e : E)
inductive Es where
  | nil
  | cons (e : E) (es : Es)
inductive OE where
  | no
  | so (e : E)
inductive B where
  | val (e : E)
  | cmp (op : COp) (a b : E)
  | chn (o1 o2 : COp) (a b c : E)
  | andL (bs : Bs)
  | orL (bs : Bs)
  | not (b : B)
inductive Bs where
  | nil
  | cons (b : B) (bs : Bs)
inductive Ie where
  | val (e : E)
  | rng1 (es : Es)
  | rng2 (es : Es)
  | enm (es : Es)
inductive Cs where
  | all
  | one (b : B)
end

/-- what the value of a tree leans on -/
structure Cl where
  c0 : Nat → List W → M → Res W
  c1 : Nat → List W → M → Res W
  g : Cn
  mt : Nat → Nat → Option Nat
  ini : Nat → Option Nat
  gvs : List W
  F : Nat
  kds : List (List (Str × At))
def srcR1 (as : List W) (m : M) : Res Src := match as with
  | [_] => srcRange as m
  | _ => .stuck
def srcR2 (as : List W) (m : M) : Res Src := match as with
  | [_, _] => srcRange as m
  | _ => .stuck
def yes : Sl → M → Res Bool := fun _ m => .ok true m
def no1 : Sl → M → Res W := fun _ _ => .stuck
def noB : Sl → M → Res Bool := fun _ _ => .stuck
def eGlo (gvs : List W) (k : Nat) : Sl → M → Res W := fun _ m => match gvs[k]? with
  | some w => .ok w m
  | none => .stuck
def eMake (cl : Cl) (k : Nat) (rs : Sl → M → Res (List W)) : Sl → M → Res W := match cl.ini k with
  | some i => eCall (makeSem k (cl.c1 i)) rs
  | none => no1
def eKget (cl : Cl) (k : Nat) (rs : Sl → M → Res (List W)) : Sl → M → Res W := match cl.kds[k]? with
  | some tab => eCall (kgetSem tab) rs
  | none => no1
def methTb (cl : Cl) (fi k : Nat) : Option (List W → M → Res W) := (cl.mt fi k).map cl.c0
def ownTb (cl : Cl) (fi k : Nat) : Option (List W → M → Res W) := (cl.mt fi k).map cl.c1
mutual
def evE (cl : Cl) : E → Sl → M → Res W
  | .var i => eVar i
  | .non => eC .non
  | .tt => eC (.bl true)
  | .ff => eC (.bl false)
  | .int i => eC (.int i)
  | .str x => eC (.str x)
  | .glo k => eGlo cl.gvs k
  | .tup es => eTup (evEs cl es)
  | .lst frz es => eLst frz (evEs cl es)
  | .bin op frz a b => two (evE cl a) (evE cl b) (binSem frz op)
  | .cmp op a b => two (evE cl a) (evE cl b) (cmpSem op)
  | .chn o1 o2 a b c => eChain o1 o2 (evE cl a) (evE cl b) (evE cl c)
  | .andL es => evAnd cl es
  | .orL es => evOr cl es
  | .not a => eNot (evE cl a)
  | .ite t a b => eIf (evB cl t) (evE cl a) (evE cl b)
  | .bf f es => eCall (bfSem f) (evEs cl es)
  | .bm f o es => MP.meth f.ty (evE cl o) (evEs cl es) (bmSem f)
  | .ix a b => two (evE cl a) (evE cl b) ixSem
  | .sl frz a lo hi => eSl frz (evE cl a) (evO cl lo) (evO cl hi)
  | .isa a t => one (evE cl a) (isaSem cl.g t)
  | .fld f o => one (evE cl o) (fldSem cl.g f)
  | .call i es => eCall (cl.c0 i) (evEs cl es)
  | .meth fi o es => eMeth (methTb cl fi) fi (evE cl o) (evEs cl es)
  | .make k es => eMake cl k (evEs cl es)
  | .comp frz src tg own cs e => eComp cl.F frz (evI cl src) ⟨tg, evC cl cs, evE cl e, own.map (·.2)⟩
  | .dct0 tk => eDnew tk
  | .dct1 k v => eD1 (evE cl k) (evE cl v)
  | .kget k es => eKget cl k (evEs cl es)
  | .nset a => one (evE cl a) nsetSem
  | .ngi i => eC (.int (-i))
  | .frz a => one (evE cl a) frzSem
  | .neg a => one (evE cl a) negSem
  | .olen fi a => eOlen (ownTb cl fi) (evE cl a)
  | .oix fi a b => eOix (ownTb cl fi) (evE cl a) (evE cl b)
  | .comp2 frz src tg own cs src1 tg1 own1 cs1 e => eComp2 frz (evI cl src) ⟨tg, evC cl cs, evI cl src1, ⟨tg1, evC cl cs1, evE cl e, own1⟩, own.map (·.2)⟩
def evEs (cl : Cl) : Es → Sl → M → Res (List W)
  | .nil => eNil
  | .cons e es => eCons (evE cl e) (evEs cl es)
def evO (cl : Cl) : OE → Sl → M → Res (Option Int)
  | .no => part none
  | .so e => part (some (evE cl e))
def evAnd (cl : Cl) : Es → Sl → M → Res W
  | .nil => no1
  | .cons e .nil => evE cl e
  | .cons e (.cons e2 es) => eAnd (evE cl e) (evAnd cl (.cons e2 es))
def evOr (cl : Cl) : Es → Sl → M → Res W
  | .nil => no1
  | .cons e .nil => evE cl e
  | .cons e (.cons e2 es) => eOr (evE cl e) (evOr cl (.cons e2 es))
def evB (cl : Cl) : B → Sl → M → Res Bool
  | .val e => tst (evE cl e)
  | .cmp op a b => tstB (two (evE cl a) (evE cl b) (cmpSem op))
  | .chn o1 o2 a b c => tstB (eChain o1 o2 (evE cl a) (evE cl b) (evE cl c))
  | .andL bs => evBand cl bs
  | .orL bs => evBor cl bs
  | .not b => bNot (evB cl b)
def evBand (cl : Cl) : Bs → Sl → M → Res Bool
  | .nil => noB
  | .cons e .nil => evB cl e
  | .cons e (.cons e2 es) => bAnd (evB cl e) (evBand cl (.cons e2 es))
def evBor (cl : Cl) : Bs → Sl → M → Res Bool
  | .nil => noB
  | .cons e .nil => evB cl e
  | .cons e (.cons e2 es) => bOr (evB cl e) (evBor cl (.cons e2 es))
def evI (cl : Cl) : Ie → Sl → M → Res Src
  | .val e => srcVal (evE cl e)
  | .rng1 es => srcArgs srcR1 (evEs cl es)
  | .rng2 es => srcArgs srcR2 (evEs cl es)
  | .enm es => srcArgs srcEnum (evEs cl es)
def evC (cl : Cl) : Cs → Sl → M → Res Bool
  | .all => yes
  | .one b => evB cl b
end

/-- the names of the text -/
structure Lx where
  fnm : List Str
  cnm : List Str
  names : List Str
  gnm : List Str
  knm : List Str

def visC (sc : Scope) (x : Str) : Bool := match sc.names.lookup x with
  | some .local => true
  | some .cell => true
  | some .free => true
  | _ => false
def locC (sc : Scope) (x : Str) : Bool := match sc.names.lookup x with
  | some .local => true
  | some .cell => true
  | _ => false
def glC (sc : Scope) (x : Str) : Bool := match sc.names.lookup x with
  | some .globalImplicit => true
  | _ => false
def okName (x : Str) : Bool := !(x == ("__debug__" : Str)) && !(x == ("__classdict__" : Str)) && !(x == ("" : Str))
def noStar : Expr → Bool
  | .Starred _ _ => false
  | _ => true
def noSet : Expr → Bool
  | .Set _ _ _ => false
  | _ => true
def noSlice : Expr → Bool
  | .Slice _ _ _ _ => false
  | _ => true
def noComp : Expr → Bool
  | .ListComp _ _ _ _ => false
  | .SetComp _ _ _ _ => false
  | .DictComp _ _ _ _ _ => false
  | _ => true
def noTuple : Expr → Bool
  | .Tuple _ _ _ => false
  | _ => true
/-- a tree whose test is its value's truth -/
def plainT : Expr → Bool
  | .UnaryOp _ _ _ => false
  | .BoolOp _ _ _ => false
  | .IfExp _ _ _ _ => false
  | .Compare _ _ _ _ => false
  | _ => true
def plainBase : Expr → Bool
  | .Call _ [] _ _ => false
  | _ => true
def BF.nm : BF → Str
  | .len => "len" | .list _ => "list" | .tuple => "tuple" | .int => "int" | .str => "str"
  | .all => "all" | .any => "any" | .repr => "repr" | .abs => "abs" | .sum => "sum" | .max => "max" | .min => "min"
def BM.nm : BM → Str
  | .append => "append" | .extend => "extend" | .pop => "pop" | .get => "get" | .join => "join" | .split _ => "split"
def Ty.nm : Ty → Option Str
  | .bl => some "bool" | .int => some "int" | .str => some "str" | .lst => some "list" | .tup => some "tuple" | .dic => some "dict"
  | _ => none
def chTy (L : Lx) (t : Ty) (x : Str) : Bool := match t with
  | .own k => L.cnm[k]? == some x
  | t => t.nm == some x
def chNs (N : List Str) (sc : Scope) : List Nat → List Expr → Bool
  | [], [] => true
  | i :: is, .Name x _ :: es => (N[i]? == some x) && locC sc x && chNs N sc is es
  | _, _ => false
def chTg (N : List Str) (sc : Scope) : Tg → Expr → Bool
  | .nm i, .Name x _ => (N[i]? == some x) && locC sc x
  | .tp is, .Tuple es _ _ => chNs N sc is es
  | _, _ => false
def chOp : BOp → Operator → Bool := fun a b => a.py == b
def chCo : COp → CmpOp → Bool := fun a b => a.py == b
def isTup : Expr → Bool
  | .Tuple _ _ _ => true
  | _ => false
mutual
def chE (L : Lx) (N : List Str) (sc : Scope) : E → Expr → Bool
  | .var i => fun a => match a with
    | .Name x _ => (N[i]? == some x) && visC sc x && okName x
    | _ => false
  | .non => fun a => match a with
    | .Constant .none _ _ => true
    | _ => false
  | .tt => fun a => match a with
    | .Constant (.bool true) _ _ => true
    | _ => false
  | .ff => fun a => match a with
    | .Constant (.bool false) _ _ => true
    | _ => false
  | .int i => fun a => match a with
    | .Constant (.int j) _ _ => decide (i = j)
    | _ => false
  | .ngi i => fun a => match a with
    | .UnaryOp .USub (.Constant (.int j) _ _) _ => decide (i = j)
    | _ => false
  | .str x => fun a => match a with
    | .Constant (.str y) _ _ => decide (x = y)
    | _ => false
  | .frz x => fun a => chE L N sc x a
  | .neg x => fun a => match a with
    | .UnaryOp .USub l _ => chE L N sc x l
    | _ => false
  | .olen fi x => fun a => match a with
    | .Call (.Name f _) [l] [] _ => decide (f = ("len" : Str)) && (L.names[fi]? == some ("__len__" : Str)) && glC sc f && noStar l && chE L N sc x l
    | _ => false
  | .oix fi x y => fun a => match a with
    | .Subscript l r _ => (L.names[fi]? == some ("__getitem__" : Str)) && noSlice r && chE L N sc x l && chE L N sc y r
    | _ => false
  | .glo k => fun a => match a with
    | .Name x _ => (L.gnm[k]? == some x) && glC sc x && okName x
    | _ => false
  | .tup es => fun a => match a with
    | .Tuple as _ _ => chEs L N sc es as
    | _ => false
  | .lst _ es => fun a => match a with
    | .List as _ => chEs L N sc es as
    | _ => false
  | .bin op _ x y => fun a => match a with
    | .BinOp l o r _ => chOp op o && chE L N sc x l && chE L N sc y r
    | _ => false
  | .cmp op x y => fun a => match a with
    | .Compare l [o] [r] _ => chCo op o && noSet r && chE L N sc x l && chE L N sc y r
    | _ => false
  | .chn o1 o2 x y z => fun a => match a with
    | .Compare l [p, q] [r, s] _ => chCo o1 p && chCo o2 q && noSet s && chE L N sc x l && chE L N sc y r && chE L N sc z s
    | _ => false
  | .andL es => fun a => match a with
    | .BoolOp .And as _ => chEs L N sc es as
    | _ => false
  | .orL es => fun a => match a with
    | .BoolOp .Or as _ => chEs L N sc es as
    | _ => false
  | .not x => fun a => match a with
    | .UnaryOp .Not l _ => chE L N sc x l
    | _ => false
  | .ite t x y => fun a => match a with
    | .IfExp c l r _ => chB L N sc t c && chE L N sc x l && chE L N sc y r
    | _ => false
  | .bf f es => fun a => match a with
    | .Call (.Name x _) (e0 :: as) [] _ => decide (x = f.nm) && glC sc x && chEs L N sc es (e0 :: as)
    | _ => false
  | .bm f o es => fun a => match a with
    | .Call (.Attribute b x ap) as [] cp => decide (x = f.nm) && plainBase b && (ap.endLine == cp.line) && decide (as.length < 30) && chE L N sc o b && chEs L N sc es as
    | _ => false
  | .ix x y => fun a => match a with
    | .Subscript l r _ => noSlice r && chE L N sc x l && chE L N sc y r
    | _ => false
  | .sl _ x lo hi => fun a => match a with
    | .Subscript l (.Slice p q none _) _ => chE L N sc x l && chO L N sc lo p && chO L N sc hi q
    | _ => false
  | .isa x t => fun a => match a with
    | .Call (.Name f _) [l, .Name c _] [] _ => decide (f = ("isinstance" : Str)) && glC sc f && chTy L t c && glC sc c && okName c && noStar l && chE L N sc x l
    | _ => false
  | .fld f o => fun a => match a with
    | .Attribute b x _ => (L.names[f]? == some x) && plainBase b && chE L N sc o b
    | _ => false
  | .call i es => fun a => match a with
    | .Call (.Name x _) as [] _ => (L.fnm[i]? == some x) && glC sc x && okName x && chEs L N sc es as
    | _ => false
  | .meth fi o es => fun a => match a with
    | .Call (.Attribute b x ap) as [] cp => (L.names[fi]? == some x) && plainBase b && (ap.endLine == cp.line) && decide (as.length < 30) && chE L N sc o b && chEs L N sc es as
    | _ => false
  | .make k es => fun a => match a with
    | .Call (.Name x _) as [] _ => (L.cnm[k]? == some x) && glC sc x && okName x && chEs L N sc es as
    | _ => false
  | .comp _ src tg own cs e => fun a => match a with
    | .ListComp el [⟨t, it, ifs, 0⟩] s2 _ => noSet it && blkC N sc s2 own && (tg.slots.all fun i => decide (i ∈ own.map (·.2))) && chI L N sc src tg it && chTg N s2 tg t && chC L N s2 cs ifs && chE L N s2 e el
    | _ => false
  | .dct0 _ => fun a => match a with
    | .Dict [] [] _ => true
    | _ => false
  | .dct1 k v => fun a => match a with
    | .Dict [some x] [y] _ => chE L N sc k x && chE L N sc v y
    | _ => false
  | .nset x => fun a => match a with
    | .Call (.Name f _) [.Call (.Name g _) [l] [] _] [] _ => decide (f = ("len" : Str)) && decide (g = ("set" : Str)) && glC sc f && glC sc g && noStar l && chE L N sc x l
    | _ => false
  | .kget k es => fun a => match a with
    | .Call (.Attribute (.Name x _) y ap) (e0 :: as) [] cp => (L.knm[k]? == some x) && decide (y = ("get" : Str)) && glC sc x && okName x && (ap.endLine == cp.line) && decide ((e0 :: as).length < 30) && chEs L N sc es (e0 :: as)
    | _ => false
  | .comp2 _ src tg own cs src1 tg1 own1 cs1 e => fun a => match a with
    | .ListComp el [⟨t, it, ifs, 0⟩, ⟨t1, it1, ifs1, 0⟩] s2 _ => noSet it && noSet it1 && blkC N sc s2 own && (tg.slots.all fun i => decide (i ∈ own.map (·.2))) && (tg1.slots.all fun i => decide (i ∈ own1)) && (own1.all fun i => decide (i ∈ own.map (·.2))) && chI L N sc src tg it && chTg N s2 tg t && chC L N s2 cs ifs && chI L N s2 src1 tg1 it1 && chTg N s2 tg1 t1 && chC L N s2 cs1 ifs1 && chE L N s2 e el
    | _ => false
def chEs (L : Lx) (N : List Str) (sc : Scope) : Es → List Expr → Bool
  | .nil => fun as => match as with
    | [] => true
    | _ => false
  | .cons e es => fun as => match as with
    | a :: as => noStar a && chE L N sc e a && chEs L N sc es as
    | _ => false
def chO (L : Lx) (N : List Str) (sc : Scope) : OE → Option Expr → Bool
  | .no => fun a => match a with
    | none => true
    | _ => false
  | .so e => fun a => match a with
    | some a => chE L N sc e a
    | none => false
def chB (L : Lx) (N : List Str) (sc : Scope) : B → Expr → Bool
  | .val e => fun a => plainT a && chE L N sc e a
  | .cmp op x y => fun a => match a with
    | .Compare l [o] [r] _ => chCo op o && noSet r && chE L N sc x l && chE L N sc y r
    | _ => false
  | .chn o1 o2 x y z => fun a => match a with
    | .Compare l [p, q] [r, s] _ => chCo o1 p && chCo o2 q && noSet s && chE L N sc x l && chE L N sc y r && chE L N sc z s
    | _ => false
  | .andL bs => fun a => match a with
    | .BoolOp .And as _ => chBs L N sc bs as
    | _ => false
  | .orL bs => fun a => match a with
    | .BoolOp .Or as _ => chBs L N sc bs as
    | _ => false
  | .not b => fun a => match a with
    | .UnaryOp .Not l _ => chB L N sc b l
    | _ => false
def chBs (L : Lx) (N : List Str) (sc : Scope) : Bs → List Expr → Bool
  | .nil => fun as => match as with
    | [] => true
    | _ => false
  | .cons b bs => fun as => match as with
    | a :: as => chB L N sc b a && chBs L N sc bs as
    | _ => false
def chI (L : Lx) (N : List Str) (sc : Scope) : Ie → Tg → Expr → Bool
  | .val e => fun _ a => chE L N sc e a
  | .rng1 es => fun _ a => match a with
    | .Call (.Name x _) [p] [] _ => decide (x = ("range" : Str)) && glC sc x && chEs L N sc es [p]
    | _ => false
  | .rng2 es => fun _ a => match a with
    | .Call (.Name x _) [p, q] [] _ => decide (x = ("range" : Str)) && glC sc x && chEs L N sc es [p, q]
    | _ => false
  | .enm es => fun tg a => match tg with
    | .tp _ => match a with
      | .Call (.Name x _) [p] [] _ => decide (x = ("enumerate" : Str)) && glC sc x && chEs L N sc es [p]
      | _ => false
    | _ => false
def chC (L : Lx) (N : List Str) (sc : Scope) : Cs → List Expr → Bool
  | .all => fun as => match as with
    | [] => true
    | _ => false
  | .one b => fun as => match as with
    | [a] => chB L N sc b a
    | _ => false
end
end MP
end

section
set_option maxHeartbeats 4000000
/-! MPOkE: a tree that the look takes tells the value of its expression. -/
namespace MP
open PySem PySem.Spec PyProof.Rows L2

/-- names that the text leaves alone -/
def bltNames : List Str := ["len", "list", "tuple", "int", "str", "all", "any", "repr", "abs", "sum", "max", "min", "isinstance", "bool", "dict", "range", "enumerate", "zip", "set", "sorted", "ValueError", "TypeError"]
/-- what the head of a text must give -/
structure Lf (T : Tb) (mg : Str → Option Value) (L : Lx) (cl : Cl) : Prop where
  names : L.names = T.names
  fn : ∀ (i : Nat) (x : Str), L.fnm[i]? = some x → mg x = some (.ref (T.fa i)) ∧ PySem.W.keepIn T.K (.ref (T.fa i)) = true
  cls : ∀ (k : Nat) (x : Str), L.cnm[k]? = some x → mg x = some (.ref (T.ca k))
  gv : ∀ (k : Nat) (x : Str) (w : W), L.gnm[k]? = some x → cl.gvs[k]? = some w → ∃ u v, mg x = some u ∧ RelV v u ∧ ∀ c, RelW T c w v
  blt : ∀ x ∈ bltNames, mg x = none
  make : ∀ k i, cl.ini k = some i → Mk T.K (T.ca k) (T.fa i)
  mt : ∀ fi k i m, cl.mt fi k = some i → T.names[fi]? = some m → Cls T.K (T.ca k) ∧ Meth T.K (T.ca k) m (T.fa i) ∧ PySem.W.fnIn T.K (T.fa i) = true
  cn : CnOk cl.g T
def ScRel (a b : Scope) : Prop := ∀ x, match a.names.lookup x with
  | some .local => b.names.lookup x = some .local
  | some .cell => b.names.lookup x = some .cell
  | some .free => b.names.lookup x = some .cell ∨ b.names.lookup x = some .free
  | some .globalImplicit => b.names.lookup x = some .globalImplicit
  | _ => True
/-- the dicts of the text -/
def KdF (K : PySem.W.Frag) (w : World) (mg : Str → Option Value) (L : Lx) (kds : List (List (Str × At))) : Prop := ∀ (k : Nat) (x : Str) (tab : List (Str × At)), L.knm[k]? = some x → kds[k]? = some tab → ∃ a, mg x = some (.ref a) ∧ KdOk K w a tab
/-- a context and what the trees lean on -/
structure XOk (T : Tb) (L : Lx) (cl : Cl) (n : Nat) (X : Cx) (N : List Str) (sc : Scope) (Wx : WX) : Prop where
  K : X.K = T.K
  lf : Lf T X.mg L cl
  N_ : X.N = N
  nd : N.Nodup
  calm : X.calm = true
  gd : X.A.guards = some []
  room : Room (n + 2) X.A
  tk : Takes X Wx
  scr : ScRel sc X.env.scope
  fnl : ∀ x, locC sc x = true → X.fn x = true ∨ X.env.scope.names.lookup x = some .local
  c0 : ∀ i, FnG X.prog X.w X.K X.mg X.base (n + 2) (T.fa i) (spC T (cl.c0 i))
  c1 : ∀ i, FnG X.prog X.w X.K X.mg X.base (n + 1) (T.fa i) (spC T (cl.c1 i))
  kd : KdF X.K X.w X.mg L cl.kds

section
variable {a b : Scope} {x : Str}
theorem ScRel.vis (h : ScRel a b) (e : visC a x = true) : Vis b x := by
  have q := h x
  unfold visC at e
  split at e
  · rename_i z; rw [z] at q; exact .inl q
  · rename_i z; rw [z] at q; exact .inr (.inl q)
  · rename_i z; rw [z] at q; exact .inr q
  · cases e
theorem ScRel.loc (h : ScRel a b) (e : locC a x = true) : Loc b x := by
  have q := h x
  unfold locC at e
  split at e
  · rename_i z; rw [z] at q; exact .inl q
  · rename_i z; rw [z] at q; exact .inr q
  · cases e
theorem ScRel.gl (h : ScRel a b) (e : glC a x = true) : b.names.lookup x = some .globalImplicit := by
  have q := h x
  unfold glC at e
  split at e
  · rename_i z; rw [z] at q; exact q
  · cases e
theorem lookup_re {env : Env} {x : Str} : ∀ names : List (Str × NameKind), (names.map fun (n, k) => if (k == NameKind.free && env.scope.kind == .function && env.kindOf n == some .cell) then (n, NameKind.cell) else (n, k)).lookup x =
    (names.lookup x).map fun k => if (k == NameKind.free && env.scope.kind == .function && env.kindOf x == some .cell) then NameKind.cell else k
  | [] => rfl
  | (n, k) :: r => by
    have ih := lookup_re (env := env) (x := x) r
    rw [List.map_cons]
    cases hx : x == n with
    | true =>
      have : x = n := by simpa using hx
      subst this
      by_cases hc : (k == NameKind.free && env.scope.kind == .function && env.kindOf x == some .cell) = true
      · simp only [List.lookup_cons, hx, Option.map_some, if_pos hc]
      · simp only [List.lookup_cons, hx, Option.map_some, if_neg hc]
    | false =>
      by_cases hc : (k == NameKind.free && env.scope.kind == .function && env.kindOf n == some .cell) = true
      · simp only [List.lookup_cons, hx, if_pos hc]; exact ih
      · simp only [List.lookup_cons, hx, if_neg hc]; exact ih
theorem ScRel.re (s : Scope) (env : Env) : ScRel s (relabel s env) := by
  intro x
  have e := lookup_re (env := env) (x := x) s.names
  unfold relabel
  dsimp only
  rw [e]
  cases h : s.names.lookup x with
  | none => trivial
  | some k => cases k <;> simp <;> exact fun _ => Classical.em _
theorem ScRel.blk {N : List Str} {sc s2 : Scope} {own : List (Str × Nat)} (h : ScRel a b) (e : blkC N a s2 own = true) : BlkOk N b s2 own := by
  have q := blkOk_by e
  refine ⟨q.kind, q.uniq, q.ix, fun y hy z => ?_, q.own⟩
  have r := h y.1
  rcases q.free y hy z with f | f
  · rw [f] at r; exact .inl r
  · rw [f] at r; exact r
end
section
variable {T : Tb} {L : Lx} {cl : Cl} {n : Nat} {X : Cx} {N : List Str} {sc : Scope} {Wx : WX}
theorem XOk.gl (ok : XOk T L cl n X N sc Wx) {x : Str} (e : glC sc x = true) : Gl X x := ok.scr.gl e
theorem XOk.units (ok : XOk T L cl n X N sc Wx) : X.A.units + 64 < cLine := ok.room.units
theorem takes_blk {X : Cx} : Takes X noX := fun _ _ ⟨_, _, _, _, _, _, _, _, _, _, _, _, _, _, _, _, w⟩ => w.elim
/-- inside a comprehension -/
theorem XOk.blk (ok : XOk T L cl n X N sc Wx) (s : Shared) (H : Hp) (s2 : Scope) (C : Addr) (cls : List (Str × Addr)) (fp : List Addr) : XOk T L cl n (X.blk s H s2 (compEnvC s2 cls C X.env) fp) N s2 noX :=
  ⟨ok.K, ok.lf, ok.N_, ok.nd, ok.calm, ok.gd, ok.room, takes_blk, ScRel.re s2 X.env, fun x e => by
    have q := ScRel.re s2 X.env x
    unfold locC at e
    split at e
    · rename_i z; rw [z] at q; exact .inr q
    · rename_i z; exact .inl (by show (s2.names.lookup x == some .cell) = true; rw [z]; rfl)
    · exact absurd e (by simp), ok.c0, ok.c1, ok.kd⟩
theorem star1 {a : Expr} {as : List Expr} {env : Env} (h : noStar a = true) : starEach (a :: as) env = (false, eval a env) :: starEach as env := by
  cases a <;> first | rfl | (cases h)
/-- no argument is starred -/
theorem starAll {es : Es} {env : Env} : ∀ {as : List Expr}, chEs L N sc es as = true → (starEach as env).any (·.1) = false := by
  intro as
  induction as generalizing es with
  | nil => intro _; rfl
  | cons a as ih =>
    intro h
    cases es with
    | nil => simp [chEs] at h
    | cons e es =>
      simp only [chEs, Bool.and_eq_true] at h
      rw [star1 h.1.1]
      simpa using ih h.2
theorem back_any {pos : Pos} {l : List (Bool × Sem Value)} : (backTo pos l).any (·.1) = l.any (·.1) := by
  unfold backTo
  induction l with
  | nil => rfl
  | cons a l ih => simp only [List.map_cons, List.any_cons, ih]
theorem plain_of {es : Es} {as : List Expr} {pos : Pos} (h : chEs L N sc es as = true) : Plain X pos as := by
  intro e es' z
  subst z
  cases es with
  | nil => simp [chEs] at h
  | cons e es =>
    simp only [chEs, Bool.and_eq_true] at h
    exact ⟨star1 h.1.1, by rw [back_any]; exact starAll h.2⟩
theorem base_of {b : Expr} {m : Str} {env : Env} (h : plainBase b = true) : attributeBase b m env (eval b env) = eval b env := by
  unfold attributeBase
  cases b with
  | Call f as ks p =>
    cases as with
    | nil => cases h
    | cons a as => cases f <;> rfl
  | _ => rfl
theorem few_of {es : Es} {as : List Expr} {pos : Pos} {env : Env} (h : chEs L N sc es as = true) (hl : as.length < 30) : methodCallForm (as.length + ([] : List Keyword).length) (backTo pos (starEach as env)) (backToKw pos (keywordEach [] env)) = true := by
  have z : (backTo pos (starEach as env)).all (fun x => !x.1) = true := by
    have q := starAll (env := env) h
    rw [← back_any (pos := pos)] at q
    rw [List.all_eq_true]
    intro y hy
    rw [List.any_eq_false] at q
    simpa using q y hy
  unfold methodCallForm
  rw [z]
  show (true && (([] : List (Option Str × Sem Value)).all _) && decide (_ < 30)) = true
  have e0 : backToKw pos (keywordEach [] env) = [] := rfl
  rw [e0]
  simpa using hl
theorem meth_form {b : Expr} {m : Str} {ap pos : Pos} {as : List Expr} {es : Es} {env : Env} (hb : plainBase b = true) (hl : (ap.endLine == pos.line) = true) (h : chEs L N sc es as = true) (hn : as.length < 30) :
    eval (.Call (.Attribute b m ap) as [] pos) env = (do
      let ov ← eval b env
      standAt ap.atName
      let (f, first) ← holding [ov] (getMethod ov m (do return (← importBound b env).getD true))
      callWith pos f first (backTo pos (starEach as env)) (backToKw pos (keywordEach [] env))) := by
  show (do
    let ov ← attributeBase b m env (eval b env)
    standAt ap.atName
    methodCall b m ap pos env ov (as.length + ([] : List Keyword).length) (backTo pos (starEach as env)) (backToKw pos (keywordEach [] env))) = _
  rw [base_of hb]
  have f := few_of (pos := pos) (env := env) h hn
  unfold methodCall
  rw [f]
  have e1 : methodCallPos true b env ap pos = pure pos := by
    unfold methodCallPos
    simp [hl]
  rw [e1]
  simp only [calleeOf, if_true, pure_bind]

theorem chIs {es : Es} (h : chEs L N sc es [] = true) (cl : Cl) : evEs cl es = eNil := by
  cases es with
  | nil => rfl
  | cons e es => simp [chEs] at h
theorem nomark' {op : CmpOp} {b : Expr} (h : noSet b = true) : behindInMarks op b = false := by
  cases b <;> first | rfl | cases h
theorem folded {e : Expr} {env : Env} (h : noSet e = true) (x : Value) : foldedSetIterable e env x = pure x := by
  cases e <;> first | rfl | cases h
theorem plainIx {b : Expr} (h : noSlice b = true) : PlainIx b := by
  intro o i
  cases b <;> first | rfl | cases h
theorem subT {b : Expr} (h : noSlice b = true) : SubT b := by
  intro o i
  cases b <;> first | rfl | cases h
theorem own_of {T : Tb} {L : Lx} {cl : Cl} {n : Nat} {X : Cx} {N : List Str} {sc : Scope} {Wx : WX} (ok : XOk T L cl n X N sc Wx) {fi k : Nat} {m : Str} {sem : List W → M → Res W} (hn : T.names[fi]? = some m) (hk : ownTb cl fi k = some sem) : OwOk X T (n + 1) k m sem := by
  unfold ownTb at hk
  obtain ⟨j, e1, e2⟩ := Option.map_eq_some_iff.mp hk
  obtain ⟨_, m2, m3⟩ := ok.lf.mt fi k j m e1 hn
  subst e2
  exact ⟨_, ok.K ▸ m2, ok.K ▸ m3, ok.c1 j⟩
theorem plain_true {e : Expr} {env : Env} (h : plainT e = true) (whole : Sem Value) : isTrue e env whole = (do let v ← whole; standAt e.pos; holding [v] (truthy v)) := by
  cases e <;> first | rfl | cases h
theorem opEq {a : BOp} {b : Operator} (h : chOp a b = true) : b = a.py := (by simpa [chOp] using h : a.py = b).symm
theorem coEq {a : COp} {b : CmpOp} (h : chCo a b = true) : b = a.py := (by simpa [chCo] using h : a.py = b).symm
theorem boot_bf (f : BF) : (∃ id, f.py = .builtin id ∧ bootBuiltins f.nm = some (.builtin id)) ∨ (∃ id, f.py = .type id ∧ bootBuiltins f.nm = some (.type id)) := by
  cases f
  · exact .inl ⟨_, rfl, by decide +kernel⟩
  · exact .inr ⟨_, rfl, by show bootBuiltins "list" = _; decide +kernel⟩
  · exact .inr ⟨_, rfl, by decide +kernel⟩
  · exact .inr ⟨_, rfl, by decide +kernel⟩
  · exact .inr ⟨_, rfl, by decide +kernel⟩
  · exact .inl ⟨_, rfl, by decide +kernel⟩
  · exact .inl ⟨_, rfl, by decide +kernel⟩
  · exact .inl ⟨_, rfl, by decide +kernel⟩
  · exact .inl ⟨_, rfl, by decide +kernel⟩
  · exact .inl ⟨_, rfl, by decide +kernel⟩
  · exact .inl ⟨_, rfl, by decide +kernel⟩
  · exact .inl ⟨_, rfl, by decide +kernel⟩
theorem nm_bf (f : BF) : f.nm ∈ bltNames ∧ f.nm ≠ "__name__" ∧ (f.nm == ("__debug__" : Str)) = false := by
  cases f <;> first | decide | (show ("list" : Str) ∈ bltNames ∧ ("list" : Str) ≠ "__name__" ∧ (("list" : Str) == ("__debug__" : Str)) = false; decide)
theorem bm_facts (f : BM) : PlainAttrs f.ty ∧ Slot f.ty f.nm f.id ∧ typeOf (.builtin f.id) = pure (.type "method_descriptor") := by
  cases f
  · exact ⟨PySem.F.plainAttrs_list, PySem.F.slot_list_append, PySem.F.type_list_append⟩
  · exact ⟨PySem.F.plainAttrs_list, PySem.F.slot_list_extend, PySem.F.type_list_extend⟩
  · exact ⟨PySem.F.plainAttrs_list, PySem.F.slot_list_pop, PySem.F.type_list_pop⟩
  · exact ⟨PySem.F.plainAttrs_dict, PySem.F.slot_dict_get, PySem.F.type_dict_get⟩
  · exact ⟨PySem.F.plainAttrs_str, PySem.F.slot_str_join, PySem.F.type_str_join⟩
  · exact ⟨PySem.F.plainAttrs_str, PySem.F.slot_str_split, PySem.F.type_str_split⟩
theorem okName_of {x : Str} (h : okName x = true) : (x == ("__debug__" : Str)) = false ∧ (x == ("__classdict__" : Str)) = false := by
  unfold okName at h
  simp only [Bool.and_eq_true, Bool.not_eq_true'] at h
  exact h.1
theorem okName_ne {x : Str} (h : okName x = true) : x ≠ "" := by
  unfold okName at h
  simp only [Bool.and_eq_true, Bool.not_eq_true'] at h
  intro z
  have := h.2
  rw [z] at this
  simp at this
theorem tE_glo {w : W} {v : V} {k : Nat} {gvs : List W} (hv : ∀ c, RelW T c w v) (hw : gvs[k]? = some w) (σ : St) (H : Hp) (Q : VK) (h : tE T Wx (eGlo gvs k) σ H Q) : tC v σ H Q := by
  obtain ⟨c, σw, eH, R, S, q⟩ := h
  unfold eGlo at q
  rw [hw] at q
  exact eH ▸ q c.ρ c.H v (Ext.refl c) R (hv c)
theorem pe_stuck {e : Expr} {r : Sl → M → Res W} (h : ∀ σ m, r σ m = .stuck) : PE X e (tE T Wx r) := ⟨fun pins s σ H Q I ⟨c, σw, _, _, _, w⟩ => by rw [h] at w; exact w.elim⟩
theorem bf_tCB {rs : Sl → M → Res (List W)} {sem : List W → M → Res W} (hn : ∀ as m, NoExc (sem as m)) (σ : St) (H : Hp) (Q : VK) (h : tE T Wx (eCall sem rs) σ H Q) : tCB (rWn T sem) (tEs T Wx rs) σ H Q := by
  obtain ⟨c, σw, eH, R, S, w⟩ := h
  refine ⟨c, σw, eH, R, S, (Wp.bind (R := RelWs T) w).mono ?_⟩
  rintro vs H1 ⟨d, ws, e1, ext, R1, rx, w1⟩
  exact ⟨d, ws, e1, R1, rx, w1.noX_of (hn _ _)⟩
theorem yes_t (σ : St) (H : Hp) (Q : Bool → Hp → Prop) (h : tB T Wx yes σ H Q) : tYes σ H Q := by
  obtain ⟨c, σw, eH, R, S, w⟩ := h
  exact eH ▸ w c.ρ c.H true (Ext.refl c) R rfl
theorem PTs.imp' {X : Cx} {ifs : List Expr} {t t' : TT} (h : PTs X ifs t) (k : ∀ σ H Q, t' σ H Q → t σ H Q) : PTs X ifs t' := ⟨fun pins s σ H Q I q => h.run pins s σ H Q I (k σ H Q q)⟩
theorem PO.imp' {X : Cx} {e : Option Expr} {t t' : TO} (h : PO X e t) (k : ∀ σ H Q, t' σ H Q → t σ H Q) : PO X e t' := ⟨fun pins s σ H Q I q => h.run pins s σ H Q I (k σ H Q q)⟩
theorem pgs_of {X : Cx} (hN : X.N = N) (nd : N.Nodup) (hs : ScRel sc X.env.scope) (hf : ∀ x, locC sc x = true → X.fn x = true ∨ X.env.scope.names.lookup x = some .local) : ∀ {is : List Nat} {es : List Expr}, chNs N sc is es = true → PGs X es (gNms is) ∧ (assignEach es X.env).length = is.length ∧ (assignEach es X.env).findIdx? (·.1) = none := by
  intro is
  induction is with
  | nil =>
    intro es h
    cases es with
    | nil => exact ⟨pgs_nil, rfl, rfl⟩
    | cons e es => simp [chNs] at h
  | cons i is ih =>
    intro es h
    cases es with
    | nil => simp [chNs] at h
    | cons e es =>
      cases e with
      | Name x p =>
        simp only [chNs, Bool.and_eq_true, beq_iff_eq] at h
        obtain ⟨⟨h1, h2⟩, h3⟩ := h
        obtain ⟨q1, q2, q3⟩ := ih h3
        refine ⟨pgs_cons (pg_name (hN ▸ nd) (hN ▸ h1) (hs.loc h2) (hf x h2)) q1, ?_, ?_⟩
        · show (_ :: assignEach es X.env).length = _
          simp [q2]
        · show (_ :: assignEach es X.env).findIdx? (·.1) = none
          rw [List.findIdx?_cons]
          simp [q3]
      | _ => simp [chNs] at h
theorem pg_of {X : Cx} (hK : X.K = T.K) (hc : X.calm = true) (hN : X.N = N) (nd : N.Nodup) (hs : ScRel sc X.env.scope) (hf : ∀ x, locC sc x = true → X.fn x = true ∨ X.env.scope.names.lookup x = some .local) {t : Tg} {e : Expr} (h : chTg N sc t e = true) : PG X e (tG T t) := by
  cases t with
  | nm i =>
    cases e with
    | Name x p =>
      simp only [chTg, Bool.and_eq_true, beq_iff_eq] at h
      exact pg_nm (hN ▸ nd) (hN ▸ h.1) (hs.loc h.2) (hf x h.2)
    | _ => simp [chTg] at h
  | tp is =>
    cases e with
    | Tuple es k p =>
      simp only [chTg] at h
      obtain ⟨q1, q2, q3⟩ := pgs_of hN nd hs hf h
      exact pg_tp hK hc q1 q2 q3
    | _ => simp [chTg] at h
end
end MP
end

section
set_option maxHeartbeats 4000000
/-! MPMain: every tree that the look takes tells its expression's value. -/
namespace MP
open PySem PySem.Spec PyProof.Rows L2

section
variable {T : Tb} {L : Lx} {cl : Cl} {n : Nat}
theorem isa_ok {X : Cx} {N : List Str} {sc : Scope} {Wx : WX} (ok : XOk T L cl n X N sc Wx) {a : Expr} {c f : Str} {p p2 p3 : Pos} {ra : Sl → M → Res W} {t : Ty} (hf : f = ("isinstance" : Str)) (hg : glC sc f = true) (ht : chTy L t c = true) (hc : glC sc c = true) (hn : okName c = true) (hs : noStar a = true)
    (ha : PE X a (tE T Wx ra)) : PE X (.Call (.Name f p) [a, .Name c p2] [] p3) (tE T Wx (one ra (isaSem cl.g t))) := by
  subst hf
  have go : ∀ (v : V) (u : Value), ClsV v u → u = t.val T → PE X (.Name c p2) (tC v) → PE X (.Call (.Name "isinstance" p) [a, .Name c p2] [] p3) (tE T Wx (one ra (isaSem cl.g t))) := fun v u hv hu he => by
    subst hu
    have hr := call_isi (X := X)
    rw [ok.K] at hr
    refine PE.imp' (pe_callB hr (ok.gl hg) (ok.lf.blt _ (by decide)) (by decide +kernel) (pa_cons ha (pa_cons he pa_nil rfl) (star1 hs)) (by decide) (by decide) (star1 hs) rfl) fun σ H Q h => ?_
    exact isa_tCB ok.lf.cn hv (tc := tC v) (fun σ H Q q => q) σ H Q h
  have nm : ∀ (s : Str) (ty : String), c = s → s ∈ bltNames → bootBuiltins s = some (.type ty) → s ≠ "__name__" → (.type ty : Value) = t.val T → PE X (.Call (.Name "isinstance" p) [a, .Name c p2] [] p3) (tE T Wx (one ra (isaSem cl.g t))) := fun s ty h1 h2 h3 h4 h5 =>
    go (.ty ty) _ (.ty ty) h5 (by subst h1; exact pe_bltn (ok.gl hc) (ok.lf.blt _ h2) h3 rfl h4 (okName_of hn).1)
  cases t with
  | own k =>
    simp only [chTy, beq_iff_eq] at ht
    exact go (.ref (T.ca k)) _ (.own _) rfl (pe_glob (ok.gl hc) (ok.lf.cls k c ht) rfl (okName_of hn).1)
  | non => simp [chTy, Ty.nm] at ht
  | bl => simp [chTy, Ty.nm] at ht; exact nm "bool" "bool" ht.symm (by decide) (by decide +kernel) (by decide) rfl
  | int => simp [chTy, Ty.nm] at ht; exact nm "int" "int" ht.symm (by decide) (by decide +kernel) (by decide) rfl
  | str => simp [chTy, Ty.nm] at ht; exact nm "str" "str" ht.symm (by decide) (by decide +kernel) (by decide) rfl
  | lst => simp [chTy, Ty.nm] at ht; exact nm "list" "list" ht.symm (by decide) (by decide +kernel) (by decide) rfl
  | tup => simp [chTy, Ty.nm] at ht; exact nm "tuple" "tuple" ht.symm (by decide) (by decide +kernel) (by decide) rfl
  | dic => simp [chTy, Ty.nm] at ht; exact nm "dict" "dict" ht.symm (by decide) (by decide +kernel) (by decide) rfl
mutual
theorem okE : ∀ (e : E) {X : Cx} {N : List Str} {sc : Scope} {Wx : WX} {a : Expr}, XOk T L cl n X N sc Wx → chE L N sc e a = true → PE X a (tE T Wx (evE cl e))
  | .var i, X, N, sc, Wx, a, ok, h => by
    simp only [chE] at h
    split at h
    · simp only [Bool.and_eq_true, beq_iff_eq] at h
      obtain ⟨⟨h1, h2⟩, h3⟩ := h
      simp only [evE]
      exact PE.imp' (pe_var (ok.N_ ▸ h1) (ok.scr.vis h2) (okName_of h3).1 (okName_of h3).2) (tE_var i)
    · cases h
  | .non, X, N, sc, Wx, a, ok, h => by
    simp only [chE] at h
    split at h
    · simp only [evE]; exact PE.imp' pe_non (tE_C fun c => rfl)
    · cases h
  | .tt, X, N, sc, Wx, a, ok, h => by
    simp only [chE] at h
    split at h
    · simp only [evE]; exact PE.imp' pe_bl (tE_C fun c => rfl)
    · cases h
  | .ff, X, N, sc, Wx, a, ok, h => by
    simp only [chE] at h
    split at h
    · simp only [evE]; exact PE.imp' pe_bl (tE_C fun c => rfl)
    · cases h
  | .int i, X, N, sc, Wx, a, ok, h => by
    simp only [chE] at h
    split at h
    · have := of_decide_eq_true h
      subst this
      simp only [evE]; exact PE.imp' pe_int (tE_C fun c => rfl)
    · cases h
  | .ngi i, X, N, sc, Wx, a, ok, h => by
    simp only [chE] at h
    split at h
    · have := of_decide_eq_true h
      subst this
      simp only [evE]; exact PE.imp' (pe_un un_neg pe_int) (fun σ H Q q => ⟨i, rfl, tE_C (w := .int (-i)) (v := .int (-i)) (fun c => rfl) σ H Q q⟩)
    · cases h
  | .str i, X, N, sc, Wx, a, ok, h => by
    simp only [chE] at h
    split at h
    · have := of_decide_eq_true h
      subst this
      simp only [evE]; exact PE.imp' pe_str (tE_C fun c => rfl)
    · cases h
  | .glo k, X, N, sc, Wx, a, ok, h => by
    simp only [chE] at h
    split at h
    · rename_i x p
      simp only [Bool.and_eq_true, beq_iff_eq] at h
      obtain ⟨⟨h1, h2⟩, h3⟩ := h
      simp only [evE]
      cases hw : cl.gvs[k]? with
      | none => exact pe_stuck fun σ m => by simp [eGlo, hw]
      | some w =>
        obtain ⟨u, v, e1, e2, e3⟩ := ok.lf.gv k x w h1 hw
        exact PE.imp' (pe_glob (ok.gl h2) e1 e2 (okName_of h3).1) (tE_glo e3 hw)
    · cases h
  | .tup es, X, N, sc, Wx, a, ok, h => by
    simp only [chE] at h
    split at h
    · simp only [evE]; exact PE.imp' (pe_tup (okEs es ok h)) tE_tup
    · cases h
  | .lst frz es, X, N, sc, Wx, a, ok, h => by
    simp only [chE] at h
    split at h
    · simp only [evE]; exact PE.imp' (pe_lst (okEs es ok h)) tE_lst
    · cases h
  | .bin op frz x y, X, N, sc, Wx, a, ok, h => by
    simp only [chE] at h
    split at h
    · simp only [Bool.and_eq_true] at h
      obtain ⟨⟨h1, h2⟩, h3⟩ := h
      cases opEq h1
      simp only [evE]
      exact PE.imp' (pe_op (op_bin' ok.K frz op) (okE x ok h2) (okE y ok h3)) (two_tOp (fun _ _ _ _ z => z) (binSem_noexc frz op))
    · cases h
  | .cmp op x y, X, N, sc, Wx, a, ok, h => by
    simp only [chE] at h
    split at h
    · simp only [Bool.and_eq_true] at h
      obtain ⟨⟨⟨h1, h2⟩, h3⟩, h4⟩ := h
      cases coEq h1
      simp only [evE]
      exact PE.imp' (pe_cmpR (op_cmp' ok.K ok.units op) (okE x ok h3) (okE y ok h4) (nomark' h2)) (two_tOp (fun _ _ _ _ z => z) (cmpSem_noexc op))
    · cases h
  | .chn o1 o2 x y z, X, N, sc, Wx, a, ok, h => by
    simp only [chE] at h
    split at h
    · simp only [Bool.and_eq_true] at h
      obtain ⟨⟨⟨⟨⟨h1, h2⟩, h3⟩, h4⟩, h5⟩, h6⟩ := h
      cases coEq h1
      cases coEq h2
      simp only [evE]
      exact PE.imp' (pe_chain (op_cmp' ok.K ok.units o1) (op_cmp' ok.K ok.units o2) (okE x ok h4) (okE y ok h5) (okE z ok h6) (nomark' h3)) eChain_t
    · cases h
  | .andL es, X, N, sc, Wx, a, ok, h => by
    simp only [chE] at h
    split at h
    · simp only [evE]; exact okAnd es ok h
    · cases h
  | .orL es, X, N, sc, Wx, a, ok, h => by
    simp only [chE] at h
    split at h
    · simp only [evE]; exact okOr es ok h
    · cases h
  | .not x, X, N, sc, Wx, a, ok, h => by
    simp only [chE] at h
    split at h
    · simp only [evE]; exact PE.imp' (pe_not (okE x ok h)) eNot_t
    · cases h
  | .ite t x y, X, N, sc, Wx, a, ok, h => by
    simp only [chE] at h
    split at h
    · simp only [Bool.and_eq_true] at h
      obtain ⟨⟨h1, h2⟩, h3⟩ := h
      simp only [evE]; exact PE.imp' (pe_ifExp (okB t ok h1) (okE x ok h2) (okE y ok h3)) eIf_t
    · cases h
  | .bf f es, X, N, sc, Wx, a, ok, h => by
    simp only [chE] at h
    split at h
    · simp only [Bool.and_eq_true] at h
      obtain ⟨⟨h1, h2⟩, h3⟩ := h
      have := of_decide_eq_true h1
      subst this
      have q := okEs es ok h3
      obtain ⟨n1, n2, n3⟩ := nm_bf f
      obtain ⟨s1, s2⟩ := plain_of (X := X) (pos := default) h3 _ _ rfl
      simp only [evE]
      have hcr := cr_bf ok.K ok.calm ok.gd ok.units f
      rcases boot_bf f with ⟨id, e1, e2⟩ | ⟨id, e1, e2⟩
      · rw [e1] at hcr
        exact PE.imp' (pe_callB hcr (ok.gl h2) (ok.lf.blt _ n1) e2 q n2 n3 s1 (by rw [back_any] at s2 ⊢; exact s2)) (bf_tCB (bfSem_noexc f))
      · rw [e1] at hcr
        exact PE.imp' (pe_callTy hcr (ok.gl h2) (ok.lf.blt _ n1) e2 q n2 n3 s1 (by rw [back_any] at s2 ⊢; exact s2)) (bf_tCB (bfSem_noexc f))
    · cases h
  | .bm f o es, X, N, sc, Wx, a, ok, h => by
    simp only [chE] at h
    split at h
    · rename_i b x ap as cp
      simp only [Bool.and_eq_true] at h
      obtain ⟨⟨⟨⟨⟨h1, h2⟩, h3⟩, h4⟩, h5⟩, h6⟩ := h
      have := of_decide_eq_true h1
      subst this
      have hl := of_decide_eq_true h4
      obtain ⟨f1, f2, f3⟩ := bm_facts f
      have hm := mt_bm (T := T) (X := X) ok.K ok.units f
      simp only [evE]
      cases as with
      | nil =>
        rw [chIs h6 cl]
        refine PE.imp' (pe_bm0 f1 f2 f3 hm (okE o ok h5) (base_of h2) h3) ?_
        rw [ok.K]
        exact meth_tBM0 (bmSem_noexc f)
      | cons e0 as =>
        obtain ⟨s1, s2⟩ := plain_of (X := X) (pos := cp) h6 _ _ rfl
        refine PE.imp' (pe_bm f1 f2 f3 hm (okE o ok h5) (okEs es ok h6) (base_of h2) (few_of h6 hl) h3 s1 s2) ?_
        rw [ok.K]
        exact meth_tBM (bmSem_noexc f)
    · cases h
  | .ix x y, X, N, sc, Wx, a, ok, h => by
    simp only [chE] at h
    split at h
    · simp only [Bool.and_eq_true] at h
      obtain ⟨⟨h1, h2⟩, h3⟩ := h
      simp only [evE]
      exact PE.imp' (pe_ix (ix_any ok.K ok.units) (okE x ok h2) (okE y ok h3) (plainIx h1)) (two_tOp (fun _ _ _ _ z => z) ixSem_noexc)
    · cases h
  | .sl frz x lo hi, X, N, sc, Wx, a, ok, h => by
    simp only [chE] at h
    split at h
    · simp only [Bool.and_eq_true] at h
      obtain ⟨⟨h1, h2⟩, h3⟩ := h
      simp only [evE]
      exact PE.imp' (pe_slice (sl_any ok.K frz) (okE x ok h1) (okO lo ok h2) (okO hi ok h3)) tE_sl
    · cases h
  | .isa x t, X, N, sc, Wx, a, ok, h => by
    simp only [chE] at h
    split at h
    · simp only [Bool.and_eq_true] at h
      obtain ⟨⟨⟨⟨⟨⟨h1, h2⟩, h3⟩, h4⟩, h5⟩, h6⟩, h7⟩ := h
      simp only [evE]
      exact isa_ok ok (of_decide_eq_true h1) h2 h3 h4 h5 h6 (okE x ok h7)
    · cases h
  | .fld f o, X, N, sc, Wx, a, ok, h => by
    simp only [chE] at h
    split at h
    · simp only [Bool.and_eq_true, beq_iff_eq] at h
      obtain ⟨⟨h1, h2⟩, h3⟩ := h
      simp only [evE]
      refine PE.imp' (pe_fld (okE o ok h3) (base_of h2)) ?_
      rw [ok.K]
      exact fld_tFld ok.lf.cn (ok.lf.names ▸ h1)
    · cases h
  | .call i es, X, N, sc, Wx, a, ok, h => by
    simp only [chE] at h
    split at h
    · rename_i x p as cp
      simp only [Bool.and_eq_true, beq_iff_eq] at h
      obtain ⟨⟨⟨h1, h2⟩, h3⟩, h4⟩ := h
      obtain ⟨q1, q2⟩ := ok.lf.fn i x h1
      simp only [evE]
      exact pe_callG (ok.c0 i) ok.room ok.gd ok.tk (ok.gl h2) q1 (ok.K ▸ q2) (okEs es ok h4) (fun z => by subst z; exact chIs h4 cl) (okName_of h3).1 (plain_of h4)
    · cases h
  | .meth fi o es, X, N, sc, Wx, a, ok, h => by
    simp only [chE] at h
    split at h
    · rename_i b x ap as cp
      simp only [Bool.and_eq_true, beq_iff_eq] at h
      obtain ⟨⟨⟨⟨⟨h1, h2⟩, h3⟩, h4⟩, h5⟩, h6⟩ := h
      have hl := of_decide_eq_true h4
      have hn : T.names[fi]? = some x := ok.lf.names ▸ h1
      simp only [evE]
      refine pe_methG (n := n + 2) (fun k sem hk => ?_) hn ok.room ok.gd ok.tk (okE o ok h5) (okEs es ok h6) (fun z => by subst z; exact chIs h6 cl) (plain_of h6) (meth_form h2 (by simpa using h3) h6 hl)
      unfold methTb at hk
      obtain ⟨j, e1, e2⟩ := Option.map_eq_some_iff.mp hk
      obtain ⟨m1, m2, _⟩ := ok.lf.mt fi k j x e1 hn
      subst e2
      exact ⟨ok.K ▸ m1, _, ok.K ▸ m2, ok.c0 j⟩
    · cases h
  | .make k es, X, N, sc, Wx, a, ok, h => by
    simp only [chE] at h
    split at h
    · rename_i x p as cp
      simp only [Bool.and_eq_true, beq_iff_eq] at h
      obtain ⟨⟨⟨h1, h2⟩, h3⟩, h4⟩ := h
      simp only [evE]
      unfold eMake
      split
      · rename_i i hi
        exact pe_makeG (ok.K ▸ ok.lf.make k i hi) (ok.c1 i) ok.room ok.gd ok.tk (ok.gl h2) (ok.lf.cls k x h1) (okEs es ok h4) (fun z => by subst z; exact chIs h4 cl) (okName_of h3).1 (plain_of h4)
      · exact pe_stuck fun _ _ => rfl
    · cases h
  | .comp frz src tg own cs e, X, N, sc, Wx, a, ok, h => by
    simp only [chE] at h
    split at h
    · rename_i el t it ifs s2 pos
      simp only [Bool.and_eq_true, List.all_eq_true, decide_eq_true_eq] at h
      obtain ⟨⟨⟨⟨⟨⟨h1, h2⟩, h3⟩, h4⟩, h5⟩, h6⟩, h7⟩ := h
      simp only [evE]
      refine PE.imp' (pe_lc ok.calm (ok.N_ ▸ ok.nd) (okI src ok h4 h5) (ok.N_ ▸ ScRel.blk (sc := sc) ok.scr h2) (g := tG T tg) (tt := tB T noX (evC cl cs)) (te := tE T noX (evE cl e))
        (fun s H C cl' fp => ?_) (fun s H C cl' fp => ?_) (fun s H C cl' fp => okE e (ok.blk s H s2 C cl' fp) h7) (folded h1)) (comp_tLc h3)
      · have ok2 := ok.blk s H s2 C cl' fp
        exact pg_of ok2.K ok2.calm ok2.N_ ok2.nd ok2.scr ok2.fnl h5
      · exact okC cs (ok.blk s H s2 C cl' fp) h6
    · cases h
  | .dct0 tk, X, N, sc, Wx, a, ok, h => by
    simp only [chE] at h
    split at h
    · simp only [evE]; exact pe_dnew tk
    · cases h
  | .dct1 k v, X, N, sc, Wx, a, ok, h => by
    simp only [chE] at h
    split at h
    · simp only [Bool.and_eq_true] at h
      simp only [evE]; exact PE.imp' (pe_d1 ok.units (okE k ok h.1) (okE v ok h.2)) eD1_t
    · cases h
  | .frz x, X, N, sc, Wx, a, ok, h => by
    simp only [chE] at h
    simp only [evE]
    exact PE.imp' (okE x ok h) tE_frz
  | .neg x, X, N, sc, Wx, a, ok, h => by
    simp only [chE] at h
    split at h
    · simp only [evE]
      exact PE.imp' (pe_un un_neg (okE x ok h)) (one_tUn neg_rU negSem_noexc)
    · cases h
  | .olen fi x, X, N, sc, Wx, a, ok, h => by
    simp only [chE] at h
    split at h
    · simp only [Bool.and_eq_true, beq_iff_eq] at h
      obtain ⟨⟨⟨⟨h1, h2⟩, h3⟩, h4⟩, h5⟩ := h
      have e1 := of_decide_eq_true h1
      subst e1
      simp only [evE]
      exact pe_olen (n := n + 1) (fun k sem hk => own_of ok (ok.lf.names ▸ h2) hk) ok.room ok.gd ok.tk (ok.gl h3) (ok.lf.blt _ (by decide)) (okE x ok h5) (star1 h4)
    · cases h
  | .oix fi x y, X, N, sc, Wx, a, ok, h => by
    simp only [chE] at h
    split at h
    · simp only [Bool.and_eq_true, beq_iff_eq] at h
      obtain ⟨⟨⟨h1, h2⟩, h3⟩, h4⟩ := h
      simp only [evE]
      exact pe_oix (n := n + 1) (fun k sem hk => own_of ok (ok.lf.names ▸ h1) hk) ok.room ok.gd ok.tk (okE x ok h3) (okE y ok h4) (subT h2)
    · cases h
  | .nset x, X, N, sc, Wx, a, ok, h => by
    simp only [chE] at h
    split at h
    · simp only [Bool.and_eq_true] at h
      obtain ⟨⟨⟨⟨⟨h1, h2⟩, h3⟩, h4⟩, h5⟩, h6⟩ := h
      have e1 := of_decide_eq_true h1
      have e2 := of_decide_eq_true h2
      subst e1 e2
      simp only [evE]
      exact pe_nset ok.K ok.calm (ok.gl h3) (ok.lf.blt _ (by decide)) (ok.gl h4) (ok.lf.blt _ (by decide)) (okE x ok h6) (star1 h5)
    · cases h
  | .kget k es, X, N, sc, Wx, a, ok, h => by
    simp only [chE] at h
    split at h
    · rename_i x p y ap e0 as cp
      simp only [Bool.and_eq_true, beq_iff_eq] at h
      obtain ⟨⟨⟨⟨⟨⟨h1, h2⟩, h3⟩, h4⟩, h5⟩, h6⟩, h7⟩ := h
      have := of_decide_eq_true h2
      subst this
      simp only [evE]
      unfold eKget
      split
      · rename_i tab ht
        obtain ⟨d, e1, e2⟩ := ok.kd k x tab h1 ht
        obtain ⟨s1, s2⟩ := plain_of (X := X) (pos := cp) h7 _ _ rfl
        exact pe_kget e2 (ok.gl h3) e1 (okName_of h4).1 (okEs es ok h7) (few_of h7 (of_decide_eq_true h6)) (by simpa using h5) s1 s2
      · exact pe_stuck fun _ _ => rfl
    · cases h
  | .comp2 frz src tg own cs src1 tg1 own1 cs1 e, X, N, sc, Wx, a, ok, h => by
    simp only [chE] at h
    split at h
    · rename_i el t it ifs t1 it1 ifs1 s2 pos
      simp only [Bool.and_eq_true, List.all_eq_true, decide_eq_true_eq] at h
      obtain ⟨⟨⟨⟨⟨⟨⟨⟨⟨⟨⟨⟨h1, h1'⟩, h2⟩, h3⟩, h3'⟩, h3''⟩, h4⟩, h5⟩, h6⟩, h4'⟩, h5'⟩, h6'⟩, h7⟩ := h
      simp only [evE]
      refine PE.imp' (pe_lc2 ok.calm (ok.N_ ▸ ok.nd) (okI src ok h4 h5) (ok.N_ ▸ ScRel.blk (sc := sc) ok.scr h2) h3'' (g := tG T tg) (tt := tB T noX (evC cl cs)) (wi1 := tI T noX (evI cl src1)) (g1 := tG T tg1) (tt1 := tB T noX (evC cl cs1)) (te := tE T noX (evE cl e))
        (fun s H C cl' fp => ?_) (fun s H C cl' fp => ?_) (fun s H C cl' fp => okI src1 (ok.blk s H s2 C cl' fp) h4' h5') (fun s H C cl' fp => ?_) (fun s H C cl' fp => okC cs1 (ok.blk s H s2 C cl' fp) h6') (fun s H C cl' fp => okE e (ok.blk s H s2 C cl' fp) h7) (folded h1) (fun env x => folded h1' x))
        (comp2_t (p := ⟨tg, evC cl cs, evI cl src1, ⟨tg1, evC cl cs1, evE cl e, own1⟩, own.map (·.2)⟩) h3 h3')
      · have ok2 := ok.blk s H s2 C cl' fp
        exact pg_of ok2.K ok2.calm ok2.N_ ok2.nd ok2.scr ok2.fnl h5
      · exact okC cs (ok.blk s H s2 C cl' fp) h6
      · have ok2 := ok.blk s H s2 C cl' fp
        exact pg_of ok2.K ok2.calm ok2.N_ ok2.nd ok2.scr ok2.fnl h5'
    · cases h
theorem okEs : ∀ (es : Es) {X : Cx} {N : List Str} {sc : Scope} {Wx : WX} {as : List Expr}, XOk T L cl n X N sc Wx → chEs L N sc es as = true → PA X as (tEs T Wx (evEs cl es))
  | .nil, X, N, sc, Wx, as, ok, h => by
    simp only [chEs] at h
    split at h
    · simp only [evEs]; exact PA.imp' pa_nil tEs_nil
    · cases h
  | .cons e es, X, N, sc, Wx, as, ok, h => by
    simp only [chEs] at h
    split at h
    · simp only [Bool.and_eq_true] at h
      obtain ⟨⟨h1, h2⟩, h3⟩ := h
      simp only [evEs]; exact PA.imp' (pa_cons (okE e ok h2) (okEs es ok h3) (star1 h1)) tEs_cons
    · cases h
theorem okO : ∀ (e : OE) {X : Cx} {N : List Str} {sc : Scope} {Wx : WX} {a : Option Expr}, XOk T L cl n X N sc Wx → chO L N sc e a = true → PO X a (tPt T Wx (evO cl e))
  | .no, X, N, sc, Wx, a, ok, h => by
    simp only [chO] at h
    split at h
    · simp only [evO]; exact PO.imp' po_none part_none
    · cases h
  | .so e, X, N, sc, Wx, a, ok, h => by
    simp only [chO] at h
    split at h
    · simp only [evO]; exact PO.imp' (po_some (okE e ok h)) part_some
    · cases h
theorem okAnd : ∀ (es : Es) {X : Cx} {N : List Str} {sc : Scope} {Wx : WX} {as : List Expr} {pos : Pos}, XOk T L cl n X N sc Wx → chEs L N sc es as = true → PE X (.BoolOp .And as pos) (tE T Wx (evAnd cl es))
  | .nil, X, N, sc, Wx, as, pos, ok, h => pe_stuck fun _ _ => rfl
  | .cons e .nil, X, N, sc, Wx, as, pos, ok, h => by
    simp only [chEs] at h
    split at h
    · simp only [Bool.and_eq_true] at h
      obtain ⟨⟨h1, h2⟩, h3⟩ := h
      split at h3
      · simp only [evAnd]; exact pe_one (okE e ok h2)
      · cases h3
    · cases h
  | .cons e (.cons e2 es), X, N, sc, Wx, as, pos, ok, h => by
    cases as with
    | nil => simp [chEs] at h
    | cons a as =>
      simp only [chEs, Bool.and_eq_true] at h
      obtain ⟨⟨h1, h2⟩, h3⟩ := h
      cases as with
      | nil => simp at h3
      | cons b as =>
        have h3' : chEs L N sc (.cons e2 es) (b :: as) = true := by simpa [chEs] using h3
        simp only [evAnd]; exact PE.imp' (pe_and (okE e ok h2) (okAnd (.cons e2 es) ok h3')) eAnd_t
theorem okOr : ∀ (es : Es) {X : Cx} {N : List Str} {sc : Scope} {Wx : WX} {as : List Expr} {pos : Pos}, XOk T L cl n X N sc Wx → chEs L N sc es as = true → PE X (.BoolOp .Or as pos) (tE T Wx (evOr cl es))
  | .nil, X, N, sc, Wx, as, pos, ok, h => pe_stuck fun _ _ => rfl
  | .cons e .nil, X, N, sc, Wx, as, pos, ok, h => by
    simp only [chEs] at h
    split at h
    · simp only [Bool.and_eq_true] at h
      obtain ⟨⟨h1, h2⟩, h3⟩ := h
      split at h3
      · simp only [evOr]; exact pe_one (okE e ok h2)
      · cases h3
    · cases h
  | .cons e (.cons e2 es), X, N, sc, Wx, as, pos, ok, h => by
    cases as with
    | nil => simp [chEs] at h
    | cons a as =>
      simp only [chEs, Bool.and_eq_true] at h
      obtain ⟨⟨h1, h2⟩, h3⟩ := h
      cases as with
      | nil => simp at h3
      | cons b as =>
        have h3' : chEs L N sc (.cons e2 es) (b :: as) = true := by simpa [chEs] using h3
        simp only [evOr]; exact PE.imp' (pe_or (okE e ok h2) (okOr (.cons e2 es) ok h3')) eOr_t
theorem okB : ∀ (b : B) {X : Cx} {N : List Str} {sc : Scope} {Wx : WX} {a : Expr}, XOk T L cl n X N sc Wx → chB L N sc b a = true → PT X a (tB T Wx (evB cl b))
  | .val e, X, N, sc, Wx, a, ok, h => by
    simp only [chB, Bool.and_eq_true] at h
    simp only [evB]
    refine PT.imp' (pt_truth (okE e ok h.2) (plain_true h.1)) ?_
    rw [ok.K]
    exact tst_truth
  | .cmp op x y, X, N, sc, Wx, a, ok, h => by
    simp only [chB] at h
    split at h
    · simp only [Bool.and_eq_true] at h
      obtain ⟨⟨⟨h1, h2⟩, h3⟩, h4⟩ := h
      cases coEq h1
      simp only [evB]
      exact PT.imp' (pt_cmpR (op_cmp' ok.K ok.units op) (okE x ok h3) (okE y ok h4) (nomark' h2)) (tstB_test (two_tOp (fun _ _ _ _ z => z) (cmpSem_noexc op)))
    · cases h
  | .chn o1 o2 x y z, X, N, sc, Wx, a, ok, h => by
    simp only [chB] at h
    split at h
    · simp only [Bool.and_eq_true] at h
      obtain ⟨⟨⟨⟨⟨h1, h2⟩, h3⟩, h4⟩, h5⟩, h6⟩ := h
      cases coEq h1
      cases coEq h2
      simp only [evB]
      exact PT.imp' (pt_chain (op_cmp' ok.K ok.units o1) (op_cmp' ok.K ok.units o2) (okE x ok h4) (okE y ok h5) (okE z ok h6) (nomark' h3)) (tstB_test eChain_t)
    · cases h
  | .andL bs, X, N, sc, Wx, a, ok, h => by
    simp only [chB] at h
    split at h
    · simp only [evB]; exact PW.pt (okBand bs ok h)
    · cases h
  | .orL bs, X, N, sc, Wx, a, ok, h => by
    simp only [chB] at h
    split at h
    · simp only [evB]; exact PW.pt (okBor bs ok h)
    · cases h
  | .not b, X, N, sc, Wx, a, ok, h => by
    simp only [chB] at h
    split at h
    · simp only [evB]; exact PT.imp' (pt_not (okB b ok h)) bNot_t
    · cases h
theorem okBand : ∀ (es : Bs) {X : Cx} {N : List Str} {sc : Scope} {Wx : WX} {as : List Expr} {pos : Pos}, XOk T L cl n X N sc Wx → chBs L N sc es as = true → PW X (.BoolOp .And as pos) (tB T Wx (evBand cl es))
  | .nil, X, N, sc, Wx, as, pos, ok, h => ⟨fun wh pins s σ H Q I ⟨c, σw, _, _, _, w⟩ => (show False from w).elim⟩
  | .cons e .nil, X, N, sc, Wx, as, pos, ok, h => by
    simp only [chBs] at h
    split at h
    · simp only [Bool.and_eq_true] at h
      obtain ⟨h2, h3⟩ := h
      split at h3
      · simp only [evBand]; exact pw_and1 (okB e ok h2)
      · cases h3
    · cases h
  | .cons e (.cons e2 es), X, N, sc, Wx, as, pos, ok, h => by
    cases as with
    | nil => simp [chBs] at h
    | cons a as =>
      simp only [chBs, Bool.and_eq_true] at h
      obtain ⟨h2, h3⟩ := h
      cases as with
      | nil => simp at h3
      | cons b as =>
        have h3' : chBs L N sc (.cons e2 es) (b :: as) = true := by simpa [chBs] using h3
        simp only [evBand]; exact PW.imp' (pw_and (okB e ok h2) (okBand (.cons e2 es) ok h3')) bAnd_t
theorem okBor : ∀ (es : Bs) {X : Cx} {N : List Str} {sc : Scope} {Wx : WX} {as : List Expr} {pos : Pos}, XOk T L cl n X N sc Wx → chBs L N sc es as = true → PW X (.BoolOp .Or as pos) (tB T Wx (evBor cl es))
  | .nil, X, N, sc, Wx, as, pos, ok, h => ⟨fun wh pins s σ H Q I ⟨c, σw, _, _, _, w⟩ => (show False from w).elim⟩
  | .cons e .nil, X, N, sc, Wx, as, pos, ok, h => by
    simp only [chBs] at h
    split at h
    · simp only [Bool.and_eq_true] at h
      obtain ⟨h2, h3⟩ := h
      split at h3
      · simp only [evBor]; exact pw_or1 (okB e ok h2)
      · cases h3
    · cases h
  | .cons e (.cons e2 es), X, N, sc, Wx, as, pos, ok, h => by
    cases as with
    | nil => simp [chBs] at h
    | cons a as =>
      simp only [chBs, Bool.and_eq_true] at h
      obtain ⟨h2, h3⟩ := h
      cases as with
      | nil => simp at h3
      | cons b as =>
        have h3' : chBs L N sc (.cons e2 es) (b :: as) = true := by simpa [chBs] using h3
        simp only [evBor]; exact PW.imp' (pw_or (okB e ok h2) (okBor (.cons e2 es) ok h3')) bOr_t
theorem okI : ∀ (e : Ie) {X : Cx} {N : List Str} {sc s2 : Scope} {Wx : WX} {tg : Tg} {t a : Expr}, XOk T L cl n X N sc Wx → chI L N sc e tg a = true → chTg N s2 tg t = true → PI X t a (tI T Wx (evI cl e))
  | .val e, X, N, sc, s2, Wx, tg, t, a, ok, h, ht => by
    simp only [chI] at h
    simp only [evI]
    exact pi_val ok.K (okE e ok h)
  | .rng1 es, X, N, sc, s2, Wx, tg, t, a, ok, h, ht => by
    simp only [chI] at h
    split at h
    · simp only [Bool.and_eq_true] at h
      obtain ⟨⟨h1, h2⟩, h3⟩ := h
      have := of_decide_eq_true h1
      subst this
      simp only [evI]
      obtain ⟨s1, _⟩ := plain_of (X := X) (pos := default) h3 _ _ rfl
      exact pi_rng1 (ok.gl h2) (ok.lf.blt _ (by decide)) (okEs es ok h3) s1
    · cases h
  | .rng2 es, X, N, sc, s2, Wx, tg, t, a, ok, h, ht => by
    simp only [chI] at h
    split at h
    · rename_i x p p1 q1 pos
      simp only [Bool.and_eq_true] at h
      obtain ⟨⟨h1, h2⟩, h3⟩ := h
      have := of_decide_eq_true h1
      subst this
      simp only [evI]
      cases es with
      | nil => simp [chEs] at h3
      | cons e es =>
        have h4 : chEs L N sc es [q1] = true := by simp only [chEs, Bool.and_eq_true] at h3; exact h3.2
        obtain ⟨s1, _⟩ := plain_of (X := X) (pos := default) h3 _ _ rfl
        obtain ⟨s2', _⟩ := plain_of (X := X) (pos := default) h4 _ _ rfl
        exact pi_rng2 (ok.gl h2) (ok.lf.blt _ (by decide)) (okEs (.cons e es) ok h3) (by rw [s1, s2']; rfl) s2'
    · cases h
  | .enm es, X, N, sc, s2, Wx, tg, t, a, ok, h, ht => by
    simp only [chI] at h
    split at h
    · split at h
      · simp only [Bool.and_eq_true] at h
        obtain ⟨⟨h1, h2⟩, h3⟩ := h
        have := of_decide_eq_true h1
        subst this
        simp only [evI]
        obtain ⟨s1, _⟩ := plain_of (X := X) (pos := default) h3 _ _ rfl
        cases t with
        | Tuple el k p => exact pi_enum' ok.K (ok.gl h2) (ok.lf.blt _ (by decide)) (okEs es ok h3) s1
        | _ => simp [chTg] at ht
      · cases h
    · cases h
theorem okC : ∀ (e : Cs) {X : Cx} {N : List Str} {sc : Scope} {Wx : WX} {as : List Expr}, XOk T L cl n X N sc Wx → chC L N sc e as = true → PTs X as (tB T Wx (evC cl e))
  | .all, X, N, sc, Wx, as, ok, h => by
    simp only [chC] at h
    split at h
    · simp only [evC]; exact PTs.imp' pts_nil yes_t
    · cases h
  | .one b, X, N, sc, Wx, as, ok, h => by
    simp only [chC] at h
    split at h
    · simp only [evC]; exact pts_one (okB b ok h)
    · cases h
end
end
end MP
end

section
set_option maxHeartbeats 4000000
/-! MPSynS: the trees of statements. -/
namespace MP
open PySem PySem.Spec PyProof.Rows L2

/-! ### trees inside an except suite: the caught exception's fields and kinds -/
mutual
inductive HE where
  | var (i : Nat)
  | non | tt | ff | int (i : Int) | str (x : Str)
  | hf (f : Nat)
  | hi (t : Ty)
  | tup (es : HEs)
  | cmp (op : COp) (a b : HE)
  | andL (es : HEs)
  | orL (es : HEs)
  | not (a : HE)
  | ix (a b : HE)
inductive HEs where
  | nil
  | cons (e : HE) (es : HEs)
end
inductive HS where
  | asg (i : Nat) (e : HE)
  | ret (e : HE)
  | retN
  | pass
mutual
inductive S where
  | pass
  | ret (e : E)
  | retN
  | brk
  | expr (e : E)
  | ife (b : B) (x y : Ss)
  | asg (tg : Tg) (e : E)
  | asgC (i : Nat) (frz : Bool) (src : Ie) (tg : Tg) (own : List (Str × Nat)) (cs : Cs) (e : E)
  | put (f : Nat) (o e : E)
  | item (o j e : E)
  | for_ (tg : Tg) (src : Ie) (x : Ss)
  | whl (b : B) (x : Ss)
  | raise0 (k : Nat)
  | raiseT (k : Nat)
  | raiseF (k f : Nat) (e : E)
  | tryAs (x : Ss) (k i : Nat) (hs : List HS)
  | tryO (x : Ss) (k : Nat) (hs : List HS)
  | frzv (i : Nat) (s : S)
inductive Ss where
  | nil
  | cons (s : S) (ss : Ss)
end
/-- what is known of exceptions: which classes may be raised so, which handler takes which, isinstance -/
structure Xn where
  plain : Nat → Bool
  field : Nat → Option Nat
  takes : Nat → Nat → Option Bool
  isa : Nat → Ty → Option Bool
  reads : Nat → List Nat

def hotF (xn : Xn) (k : Nat) (fs : List (Nat × W)) (f : Nat) : Sl → M → Res W := fun _ m => if f ∈ xn.reads k then (match fs.lookup f with
  | some w => .ok w m
  | none => .stuck) else .stuck
def hotI (xn : Xn) (k : Nat) (t : Ty) : Sl → M → Res W := fun _ m => match xn.isa k t with
  | some b => .ok (.bl b) m
  | none => .stuck
mutual
def hvE (xn : Xn) (k : Nat) (fs : List (Nat × W)) : HE → Sl → M → Res W
  | .var i => eVar i
  | .non => eC .non
  | .tt => eC (.bl true)
  | .ff => eC (.bl false)
  | .int i => eC (.int i)
  | .str x => eC (.str x)
  | .hf f => hotF xn k fs f
  | .hi t => hotI xn k t
  | .tup es => eTup (hvEs xn k fs es)
  | .cmp op a b => two (hvE xn k fs a) (hvE xn k fs b) (cmpSem op)
  | .andL es => hvAnd xn k fs es
  | .orL es => hvOr xn k fs es
  | .not a => eNot (hvE xn k fs a)
  | .ix a b => two (hvE xn k fs a) (hvE xn k fs b) ixSem
def hvEs (xn : Xn) (k : Nat) (fs : List (Nat × W)) : HEs → Sl → M → Res (List W)
  | .nil => eNil
  | .cons e es => eCons (hvE xn k fs e) (hvEs xn k fs es)
def hvAnd (xn : Xn) (k : Nat) (fs : List (Nat × W)) : HEs → Sl → M → Res W
  | .nil => no1
  | .cons e .nil => hvE xn k fs e
  | .cons e (.cons e2 es) => eAnd (hvE xn k fs e) (hvAnd xn k fs (.cons e2 es))
def hvOr (xn : Xn) (k : Nat) (fs : List (Nat × W)) : HEs → Sl → M → Res W
  | .nil => no1
  | .cons e .nil => hvE xn k fs e
  | .cons e (.cons e2 es) => eOr (hvE xn k fs e) (hvOr xn k fs (.cons e2 es))
end
def hvS (xn : Xn) (k : Nat) (fs : List (Nat × W)) : HS → Sl → M → SR
  | .asg i e => sAsg (.nm i) (hvE xn k fs e)
  | .ret e => sRet (hvE xn k fs e)
  | .retN => sRetN
  | .pass => sNext
def hvSs (xn : Xn) (k : Nat) (fs : List (Nat × W)) : List HS → Sl → M → SR
  | [] => sNext
  | s :: ss => sSeq (hvS xn k fs s) (hvSs xn k fs ss)
def wipeR (i : Nat) : SR → SR
  | .nx σ m => .nx (σ.set i none) m
  | .bk σ m => .bk (σ.set i none) m
  | x => x
def calmS : SR → SR
  | .ex _ _ _ _ => .stuck
  | x => x
def tryAsR (xn : Xn) (k i : Nat) (hs : List HS) : SR → SR
  | .ex σ k' fs m => match xn.takes k' k with
    | some true => if i < σ.length then wipeR i (calmS (hvSs xn k' fs hs (σ.set i none) m)) else .stuck
    | some false => .ex σ k' fs m
    | none => .stuck
  | x => x
def tryOR (xn : Xn) (k : Nat) (hs : List HS) : SR → SR
  | .ex σ k' fs m => match xn.takes k' k with
    | some true => calmS (hvSs xn k' fs hs σ m)
    | some false => .ex σ k' fs m
    | none => .stuck
  | x => x
def sRaise0 (xn : Xn) (k : Nat) : Sl → M → SR := fun σ m => if xn.plain k then .ex σ k [] m else .stuck
def sRaiseF (xn : Xn) (k f : Nat) (r : Sl → M → Res W) : Sl → M → SR := fun σ m => if xn.field k = some f then thenS σ (r σ m) fun w m1 => .ex σ k [(f, w)] m1 else .stuck
mutual
def evS (cl : Cl) (xn : Xn) : S → Sl → M → SR
  | .pass => sNext
  | .ret e => sRet (evE cl e)
  | .retN => sRetN
  | .brk => sBreak
  | .expr e => sDrop (evE cl e)
  | .ife b x y => sIf (evB cl b) (evSs cl xn x) (evSs cl xn y)
  | .asg tg e => sAsg tg (evE cl e)
  | .asgC i frz src tg own cs e => sAsg (.nm i) (eComp cl.F frz (evI cl src) ⟨tg, evC cl cs, evE cl e, own.map (·.2)⟩)
  | .put f o e => sFldPut cl.g f (evE cl o) (evE cl e)
  | .item o j e => sItemPut (evE cl o) (evE cl j) (evE cl e)
  | .for_ tg src x => sFor cl.F tg (evI cl src) (evSs cl xn x)
  | .frzv i s => sFrz i (evS cl xn s)
  | .whl b x => whileL (evB cl b) (evSs cl xn x) cl.F
  | .raise0 k => sRaise0 xn k
  | .raiseT k => sRaise0 xn k
  | .raiseF k f e => sRaiseF xn k f (evE cl e)
  | .tryAs x k i hs => fun σ m => tryAsR xn k i hs (evSs cl xn x σ m)
  | .tryO x k hs => fun σ m => tryOR xn k hs (evSs cl xn x σ m)
def evSs (cl : Cl) (xn : Xn) : Ss → Sl → M → SR
  | .nil => sNext
  | .cons s .nil => evS cl xn s
  | .cons s (.cons s2 ss) => sSeq (evS cl xn s) (evSs cl xn (.cons s2 ss))
end

/-! ### the look -/
mutual
def chH (L : Lx) (N : List Str) (sc : Scope) (ev : Str) : HE → Expr → Bool
  | .var i => fun a => match a with
    | .Name x _ => (N[i]? == some x) && visC sc x && okName x
    | _ => false
  | .non => fun a => match a with
    | .Constant .none _ _ => true
    | _ => false
  | .tt => fun a => match a with
    | .Constant (.bool true) _ _ => true
    | _ => false
  | .ff => fun a => match a with
    | .Constant (.bool false) _ _ => true
    | _ => false
  | .int i => fun a => match a with
    | .Constant (.int j) _ _ => decide (i = j)
    | _ => false
  | .str x => fun a => match a with
    | .Constant (.str y) _ _ => decide (x = y)
    | _ => false
  | .hf f => fun a => match a with
    | .Attribute (.Name x _) y _ => decide (x = ev) && okName x && (L.names[f]? == some y)
    | _ => false
  | .hi t => fun a => match a with
    | .Call (.Name f _) [.Name x _, .Name c _] [] _ => decide (f = ("isinstance" : Str)) && glC sc f && decide (x = ev) && okName x && (chTy L t c || decide (c = ("ValueError" : Str) ∧ t = .non)) && glC sc c && okName c
    | _ => false
  | .tup es => fun a => match a with
    | .Tuple as _ _ => chHs L N sc ev es as
    | _ => false
  | .cmp op x y => fun a => match a with
    | .Compare l [o] [r] _ => chCo op o && noSet r && chH L N sc ev x l && chH L N sc ev y r
    | _ => false
  | .andL es => fun a => match a with
    | .BoolOp .And as _ => chHs L N sc ev es as
    | _ => false
  | .orL es => fun a => match a with
    | .BoolOp .Or as _ => chHs L N sc ev es as
    | _ => false
  | .not x => fun a => match a with
    | .UnaryOp .Not l _ => chH L N sc ev x l
    | _ => false
  | .ix x y => fun a => match a with
    | .Subscript l r _ => noSlice r && chH L N sc ev x l && chH L N sc ev y r
    | _ => false
def chHs (L : Lx) (N : List Str) (sc : Scope) (ev : Str) : HEs → List Expr → Bool
  | .nil => fun as => match as with
    | [] => true
    | _ => false
  | .cons e es => fun as => match as with
    | a :: as => noStar a && chH L N sc ev e a && chHs L N sc ev es as
    | _ => false
end
def chHS (L : Lx) (N : List Str) (sc : Scope) (ev : Str) : HS → Stmt → Bool
  | .asg i e => fun s => match s with
    | .Assign [.Name x _] v _ => (N[i]? == some x) && locC sc x && !decide (x = ev) && noComp v && chH L N sc ev e v
    | _ => false
  | .ret e => fun s => match s with
    | .Return (some v) _ => chH L N sc ev e v
    | _ => false
  | .retN => fun s => match s with
    | .Return none _ => true
    | _ => false
  | .pass => fun s => match s with
    | .Pass _ => true
    | _ => false
def chHSs (L : Lx) (N : List Str) (sc : Scope) (ev : Str) : List HS → List Stmt → Bool
  | [] => fun as => match as with
    | [] => true
    | _ => false
  | s :: ss => fun as => match as with
    | a :: as => chHS L N sc ev s a && chHSs L N sc ev ss as
    | _ => false
/-- name = [..] on one line: stored at once -/
def sameLine (x : Str) (p q : Pos) (s2 : Scope) : Bool := (p.line == q.line) && !(s2.names.any fun (n, k) => n == x && (k == .local || k == .cell))
def isCell (sc : Scope) (x : Str) : Bool := match sc.names.lookup x with
  | some .cell => true
  | _ => false
def isLocal (sc : Scope) (x : Str) : Bool := match sc.names.lookup x with
  | some .local => true
  | _ => false
mutual
def chS (L : Lx) (N : List Str) (sc : Scope) : S → Stmt → Bool
  | .pass => fun s => match s with
    | .Pass _ => true
    | _ => false
  | .ret e => fun s => match s with
    | .Return (some v) _ => chE L N sc e v
    | _ => false
  | .retN => fun s => match s with
    | .Return none _ => true
    | _ => false
  | .brk => fun s => match s with
    | .Break _ => true
    | _ => false
  | .expr e => fun s => match s with
    | .Expr v _ => noComp v && chE L N sc e v
    | _ => false
  | .ife b x y => fun s => match s with
    | .If c p q _ => chB L N sc b c && chSs L N sc x p && chSs L N sc y q
    | _ => false
  | .asg tg e => fun s => match s with
    | .Assign [t] v _ => noComp v && (noTuple v || noTuple t) && chTg N sc tg t && chE L N sc e v
    | _ => false
  | .asgC i _ src tg own cs e => fun s => match s with
    | .Assign [.Name x p] (.ListComp el [⟨t, it, ifs, 0⟩] s2 q) _ => (N[i]? == some x) && ((isLocal sc x && sameLine x p q s2) || isCell sc x) && noSet it && blkC N sc s2 own && (tg.slots.all fun j => decide (j ∈ own.map (·.2))) && chI L N sc src tg it && chTg N s2 tg t && chC L N s2 cs ifs && chE L N s2 e el
    | _ => false
  | .put f o e => fun s => match s with
    | .Assign [.Attribute b x _] v _ => (L.names[f]? == some x) && chE L N sc o b && chE L N sc e v
    | _ => false
  | .item o j e => fun s => match s with
    | .Assign [.Subscript b r _] v _ => noSlice r && chE L N sc o b && chE L N sc j r && chE L N sc e v
    | _ => false
  | .for_ tg src x => fun s => match s with
    | .For t it b [] _ => noSet it && chTg N sc tg t && chI L N sc src tg it && chSs L N sc x b
    | _ => false
  | .frzv _ t => fun s => chS L N sc t s
  | .whl b x => fun s => match s with
    | .While c p [] _ => chB L N sc b c && chSs L N sc x p
    | _ => false
  | .raise0 k => fun s => match s with
    | .Raise (some (.Call (.Name x _) [] [] _)) none _ => (L.cnm[k]? == some x) && glC sc x && okName x
    | _ => false
  | .raiseT k => fun s => match s with
    | .Raise (some (.Call (.Name x _) [.Constant (.str _) _ _] [] _)) none _ => (L.cnm[k]? == some x) && glC sc x && okName x
    | _ => false
  | .raiseF k _ e => fun s => match s with
    | .Raise (some (.Call (.Name x _) [v] [] _)) none _ => (L.cnm[k]? == some x) && glC sc x && okName x && noStar v && chE L N sc e v
    | _ => false
  | .tryAs x k i hs => fun s => match s with
    | .Try b [.ExceptHandler (some (.Name c _)) (some n) (h0 :: h) _] [] [] _ => (N[i]? == some n) && isLocal sc n && okName n && (L.cnm[k]? == some c) && glC sc c && okName c && chSs L N sc x b && chHSs L N sc n hs (h0 :: h)
    | _ => false
  | .tryO x k hs => fun s => match s with
    | .Try b [.ExceptHandler (some (.Name c _)) none (h0 :: h) _] [] [] _ => (L.cnm[k]? == some c) && glC sc c && okName c && chSs L N sc x b && chHSs L N sc "" hs (h0 :: h)
    | _ => false
def chSs (L : Lx) (N : List Str) (sc : Scope) : Ss → List Stmt → Bool
  | .nil => fun as => match as with
    | [] => true
    | _ => false
  | .cons s ss => fun as => match as with
    | a :: as => chS L N sc s a && chSs L N sc ss as
    | _ => false
end
end MP
end

section
set_option maxHeartbeats 4000000
/-! MPExc: caught exceptions asked for fields and kinds; own exceptions raised. -/
namespace MP
open PySem PySem.Spec PyProof.Rows L2

section
variable {X : Cx} {a D : Addr} {oe : Obj} {pn : List (Addr × Obj)} {d : Option Addr}
/-- isinstance(e, c), e the exception that the suite holds, with or without a dict -/
theorem call_isX (C : L2.ExcC X.K D) (hz : Zc (.ref D) d oe) (hf : ∃ vs, oe.data = .fields vs) : CallR (X.suite a ((a, oe) :: pn)) (.builtin "isinstance") (fun xs H Q => (∀ dd, d = some dd → ∃ gs, H dd = some (.xd gs)) ∧ rIsE X.K D a xs H Q) := by
  intro pins s σ H xs us Q I r h
  obtain ⟨hdd, c, cv, b, rfl, hcv, e, q⟩ := h
  cases r with
  | cons rx rr =>
    cases rr with
    | cons rt rr =>
      cases rr
      cases rx
      have ec := hcv _ rt
      subst ec
      obtain ⟨hget, _⟩ := I.pin (a, oe) (List.mem_append.mpr (.inl List.mem_cons_self))
      obtain ⟨vs, hv⟩ := hf
      have J : ∃ od, PySem.W.InstAt s.heap a oe D od := by
        cases d with
        | none => exact ⟨none, hget, hz.1, by unfold PySem.W.notCls; rw [hv] <;> rfl, by rw [hz.2]; trivial⟩
        | some dd =>
          obtain ⟨gs, hg⟩ := hdd dd rfl
          obtain ⟨mA, hns, _⟩ := (show ObjOk _ _ H s.heap dd (.xd gs) from I.hok dd _ hg)
          obtain ⟨od, ho, _⟩ := lookIn_ns hns
          exact ⟨some od, hget, hz.1, by unfold PySem.W.notCls; rw [hv] <;> rfl, by rw [hz.2]; exact ho⟩
      obtain ⟨od, J⟩ := J
      have hcl : (PySem.W.clsIn X.K D).isSome = true := by
        obtain ⟨cd, hc, _⟩ := PySem.W.any_some C.hd
        rw [hc]; rfl
      exact PySem.W.kia_one (PySem.W.kitx_exc hcl C.hg C.hk C.hs C.ha C.hn C.ht C.hm) I.kIn J e (fun z => nomatch z) fun tk => ⟨.bl b, H, I.kept (t' := tk) fun _ _ z => z, rfl, q⟩
end
section
variable {X : Cx} {C : Addr} {bmB : List Value} {B newId initId : String}
/-- X(), X an own exception class without an own __init__ -/
theorem pmk_none {x : Str} {p pos : Pos} (F : ExcBaseFacts B newId initId bmB) (q : PySem.W.excIn X.K C bmB newId = true) (gC : X.mg x = some (.ref C)) (kC : PySem.W.keepIn X.K (.ref C) = true) (r : Raises X (.ref C)) (hg : Gl X x) (hdb : (x == ("__debug__" : Str)) = false) :
    PMk X (.Call (.Name x p) [] [] pos) (fun _ H Q => Q (.ref C) none H) := by
  intro pins s σ H Q I h
  refine wpAny_Call_Name_kw (ld_glob I hg gC ?_ hdb)
  refine PySem.W.callWith_K0 I.kIn kC ?_
  obtain ⟨bm, N, nm, qn, bs, hdct, sn, sub, ab, col, dd, k0, k1, k2, k3, k5, mN, hC, hN, hni, T⟩ := exc_obj I.kIn q
  refine wpAny_call_exc_subT F T hC hN hni (fun h' e hm => ?_) (by show 0 ≤ sizeLine; omega)
  exact mk_of I hm r h (I.hok.gone hm.new)
end
end MP
end

section
set_option maxHeartbeats 4000000
/-! MPOkS: every tree of a statement that the look takes tells what the statement does. -/
namespace MP
open PySem PySem.Spec PyProof.Rows L2

/-- C(e), C an own exception that keeps its argument in the field nm -/
def tSup (C : Addr) (nm : Str) (te : TE) : L2.St → Hp → XK → Prop := fun σ H Q => te σ H fun v H1 => ∀ d, H1 d = none → Q (.ref C) (some d) (upd H1 d (.xd [(nm, v)]))
def SupOk (P : Program) (K : PySem.W.Frag) (C : Addr) (nm : Str) : Prop := ∀ (X : Cx) (x : Str) (e : Expr) (te : TE) (p pos : Pos), X.prog = P → X.K = K → X.calm = true → Room 2 X.A → X.mg x = some (.ref C) → Gl X x → (x == ("__debug__" : Str)) = false → noStar e = true → PE X e te → PMk X (.Call (.Name x p) [e] [] pos) (tSup C nm te)
def veBm : List Value := [.type "ValueError", .type "Exception", .type "BaseException", .type "object"]
def tyX (T : Tb) (t : Ty) : Value := if t = .non then .type "ValueError" else t.val T
structure Xf (P : Program) (T : Tb) (L : Lx) (xn : Xn) : Prop where
  plain : ∀ k, xn.plain k = true → PySem.W.excIn T.K (T.ca k) veBm "ValueError.__new__" = true ∧ PySem.W.keepIn T.K (.ref (T.ca k)) = true ∧ PySem.W.subIn T.K (.ref (T.ca k)) (.type "BaseException") = some true ∧ PySem.W.typeIn T.K (.ref (T.ca k)) = some (.type "type")
  fld : ∀ k f nm, xn.field k = some f → T.names[f]? = some nm → SupOk P T.K (T.ca k) nm
  nmd : ∀ k f, xn.field k = some f → ∃ nm, T.names[f]? = some nm
  takes : ∀ k j b, xn.takes k j = some b → PySem.W.exmOne T.K (.ref (T.ca k)) (.ref (T.ca j)) = some b
  isa : ∀ k t b, xn.isa k t = some b → PySem.W.kitOne T.K (.ref (T.ca k)) (tyX T t) = some b ∧ L2.ExcC T.K (T.ca k)
  reads : ∀ k f x, f ∈ xn.reads k → T.names[f]? = some x → XfC T.K (T.ca k) ∧ PySem.W.findIn T.K (.ref (T.ca k)) x = some none
structure XS (T : Tb) (L : Lx) (cl : Cl) (xn : Xn) (n : Nat) (X : Cx) (N : List Str) (sc : Scope) (Wx : WX) : Prop where
  ok : XOk T L cl n X N sc Wx
  own : PassesOwn (model X.prog X.w) X.A X.env X.xe
  stk : X.stack = X.env :: X.outer
  frm : X.env.frame = some X.env.locals
  xf : Xf X.prog T L xn
  bk : X.env.blockKind = .function

/-! ### readings with a guard -/
section
variable {T : Tb} {Wx : WX} {X : Cx} {G : Cf → L2.St → Prop}
def tEg (T : Tb) (Wx : WX) (G : Cf → L2.St → Prop) (r : Sl → M → Res W) : TE := fun σ H Q => ∃ (c : Cf) (σw : Sl), c.H = H ∧ MP.RelM T c ∧ RelS T c σw σ ∧ G c σ ∧ Wp T Wx σ (RelW T) c (r σw c.m) Q
def tEsg (T : Tb) (Wx : WX) (G : Cf → L2.St → Prop) (r : Sl → M → Res (List W)) : TA := fun σ H Q => ∃ (c : Cf) (σw : Sl), c.H = H ∧ MP.RelM T c ∧ RelS T c σw σ ∧ G c σ ∧ Wp T Wx σ (RelWs T) c (r σw c.m) Q
def Steady (T : Tb) (G : Cf → L2.St → Prop) : Prop := ∀ c d σ, MP.RelM T c → Ext c d → G c σ → G d σ
variable {ra rb : Sl → M → Res W}
theorem tEg.un {σ : L2.St} {H : Hp} {Q : VK} (h : tEg T Wx G ra σ H Q) : tE T Wx ra σ H Q := let ⟨c, σw, a, b, d, _, e⟩ := h; ⟨c, σw, a, b, d, e⟩
theorem two_g (hG : Steady T G) {sem : W → W → M → Res W} {r : R2} (hr : ∀ x y H Q, rW2 T sem x y H Q → r x y H Q) (hn : ∀ x y m, NoExc (sem x y m)) (σ : L2.St) (H : Hp) (Q : VK) (h : tEg T Wx G (two ra rb sem) σ H Q) : tOp r (tEg T Wx G ra) (tEg T Wx G rb) σ H Q := by
  obtain ⟨c, σw, eH, R, S, g, w⟩ := h
  refine ⟨c, σw, eH, R, S, g, (Wp.bind (R := RelW T) w).mono ?_⟩
  rintro x H1 ⟨d, wx, e1, ext, R1, rx, w1⟩
  refine ⟨d, σw, e1, R1, S.ext R ext, hG _ _ _ R ext g, (Wp.bind (R := RelW T) w1).mono ?_⟩
  rintro y H2 ⟨d2, wy, e2, ext2, R2, ry, w2⟩
  exact hr x y H2 Q ⟨d2, wx, wy, e2, R2, rx.ext R1 ext2, ry, w2.noX_of (hn _ _ _)⟩
theorem nil_g (σ : L2.St) (H : Hp) (Q : List V → Hp → Prop) (h : tEsg T Wx G eNil σ H Q) : tNil σ H Q := by
  obtain ⟨c, σw, eH, R, S, g, q⟩ := h
  exact eH ▸ q c.ρ c.H [] (Ext.refl c) R RelWs.nil
theorem cons_g (hG : Steady T G) {rs : Sl → M → Res (List W)} (σ : L2.St) (H : Hp) (Q : List V → Hp → Prop) (h : tEsg T Wx G (eCons ra rs) σ H Q) : tCons (tEg T Wx G ra) (tEsg T Wx G rs) σ H Q := by
  obtain ⟨c, σw, eH, R, S, g, w⟩ := h
  refine ⟨c, σw, eH, R, S, g, (Wp.bind (R := RelW T) w).mono ?_⟩
  rintro x H1 ⟨d, wx, e1, ext, R1, rx, w1⟩
  refine ⟨d, σw, e1, R1, S.ext R ext, hG _ _ _ R ext g, (Wp.bind (R := RelWs T) w1).mono ?_⟩
  rintro xs H2 ⟨d2, ws, e2, ext2, R2, rs, w2⟩
  exact e2 ▸ w2 d2.ρ d2.H _ (Ext.refl d2) R2 (RelWs.cons (rx.ext R1 ext2) rs)
theorem tup_g {rs : Sl → M → Res (List W)} (σ : L2.St) (H : Hp) (Q : VK) (h : tEg T Wx G (eTup rs) σ H Q) : tTup (tEsg T Wx G rs) σ H Q := by
  obtain ⟨c, σw, eH, R, S, g, w⟩ := h
  refine ⟨c, σw, eH, R, S, g, (Wp.bind (R := RelWs T) w).mono ?_⟩
  rintro xs H1 ⟨d, ws, e1, ext, R1, rx, w1⟩
  subst e1
  exact mkTup_ok R1 rx w1
theorem and_g (hG : Steady T G) (σ : L2.St) (H : Hp) (Q : VK) (h : tEg T Wx G (eAnd ra rb) σ H Q) : tAndV (tEg T Wx G ra) (tEg T Wx G rb) σ H Q := by
  obtain ⟨c, σw, eH, R, S, g, w⟩ := h
  refine ⟨c, σw, eH, R, S, g, (Wp.bind (R := RelW T) w).mono ?_⟩
  rintro x H1 ⟨d, wx, e1, ext, R1, rx, w1⟩
  split at w1
  · cases rx
    exact ⟨true, rfl, by simp only [if_true]; exact ⟨d, σw, e1, R1, S.ext R ext, hG _ _ _ R ext g, w1⟩⟩
  · cases rx
    exact ⟨false, rfl, by simp only [Bool.false_eq_true, if_false]; exact e1 ▸ w1 d.ρ d.H _ (Ext.refl d) R1 rfl⟩
  · exact w1.elim
theorem or_g (hG : Steady T G) (σ : L2.St) (H : Hp) (Q : VK) (h : tEg T Wx G (eOr ra rb) σ H Q) : tOrV (tEg T Wx G ra) (tEg T Wx G rb) σ H Q := by
  obtain ⟨c, σw, eH, R, S, g, w⟩ := h
  refine ⟨c, σw, eH, R, S, g, (Wp.bind (R := RelW T) w).mono ?_⟩
  rintro x H1 ⟨d, wx, e1, ext, R1, rx, w1⟩
  split at w1
  · cases rx
    exact ⟨true, rfl, by simp only [if_true]; exact e1 ▸ w1 d.ρ d.H _ (Ext.refl d) R1 rfl⟩
  · cases rx
    exact ⟨false, rfl, by simp only [Bool.false_eq_true, if_false]; exact ⟨d, σw, e1, R1, S.ext R ext, hG _ _ _ R ext g, w1⟩⟩
  · exact w1.elim
theorem not_g (σ : L2.St) (H : Hp) (Q : VK) (h : tEg T Wx G (eNot ra) σ H Q) : tNotV (tEg T Wx G ra) σ H Q := by
  obtain ⟨c, σw, eH, R, S, g, w⟩ := h
  refine ⟨c, σw, eH, R, S, g, (Wp.bind (R := RelW T) w).mono ?_⟩
  rintro x H1 ⟨d, wx, e1, ext, R1, rx, w1⟩
  split at w1
  · cases rx
    exact ⟨_, rfl, e1 ▸ w1 d.ρ d.H _ (Ext.refl d) R1 rfl⟩
  · exact w1.elim
theorem stuck_g {e : Expr} {r : Sl → M → Res W} (h : ∀ σ m, r σ m = .stuck) : PE X e (tEg T Wx G r) := ⟨fun pins s σ H Q I ⟨c, σw, _, _, _, _, w⟩ => by rw [h] at w; exact w.elim⟩
end
theorem FsRel.ext' {T : Tb} {c d : Cf} {fs : List (Nat × W)} {gs : List (Str × V)} (R : MP.RelM T c) (h : Ext c d) (r : FsRel T c fs gs) : FsRel T d fs gs := Paired.mp r fun _ _ z => ⟨z.1, z.2.ext R h⟩
theorem ExcIs.ext {T : Tb} {c d : Cf} {k : Nat} {fs : List (Nat × W)} {cls : Value} {dd : Option Addr} (R : MP.RelM T c) (h : Ext c d) (r : ExcIs T c k fs cls dd) : ExcIs T d k fs cls dd := by
  obtain ⟨e, r⟩ := r
  refine ⟨e, ?_⟩
  rcases r with r | ⟨p, gs, e1, e2, e3⟩
  · exact .inl r
  · exact .inr ⟨p, gs, e1, (h.stay p _ e2 (R.noTup (u := .xd gs) (fun _ z => nomatch z) (fun _ z => nomatch z) (fun _ z => nomatch z) (fun _ _ _ z => nomatch z) e2)).1, e3.ext' R h⟩

/-! ### inside an except suite -/
section
variable {T : Tb} {L : Lx} {cl : Cl} {xn : Xn} {n : Nat} {X : Cx} {N : List Str} {sc : Scope} {Wx : WX}
/-- the exception at a is in slot i (if it has a name), and is of class k with the fields fs -/
def Hot (T : Tb) (io : Option Nat) (a : Addr) (k : Nat) (fs : List (Nat × W)) (cls : Value) (d : Option Addr) : Cf → L2.St → Prop := fun c σ => (∀ i, io = some i → σ[i]? = some (some (.ref a))) ∧ ExcIs T c k fs cls d
theorem Hot.steady {io : Option Nat} {a : Addr} {k : Nat} {fs : List (Nat × W)} {cls : Value} {d : Option Addr} : Steady T (Hot T io a k fs cls d) := fun c e σ R x h => ⟨h.1, h.2.ext R x⟩
variable {io : Option Nat} {ev : Str} {a : Addr} {oe : Obj} {pn : List (Addr × Obj)} {k : Nat} {fs : List (Nat × W)} {cls : Value} {d : Option Addr}
theorem hot_fld (S : XS T L cl xn n X N sc Wx) (hz : Zc cls d oe) (hv : ∃ vs, oe.data = .fields vs) {i : Nat} (hi : io = some i) (hN : N[i]? = some ev) (hs : isLocal sc ev = true) {p pos : Pos} {f : Nat} {y : Str} (hn : okName ev = true) (hy : L.names[f]? = some y) :
    PE (X.suite a ((a, oe) :: pn)) (.Attribute (.Name ev p) y pos) (tEg T noX (Hot T io a k fs cls d) (hotF xn k fs f)) := by
  by_cases hr : f ∈ xn.reads k
  · have hy' : T.names[f]? = some y := S.ok.lf.names ▸ hy
    obtain ⟨xc, hno⟩ := S.xf.reads k f y hr hy'
    have vis : visC sc ev = true := by
      unfold isLocal at hs
      unfold visC
      split at hs
      · rename_i z; rw [z]
      · cases hs
    have hvar : PE (X.suite a ((a, oe) :: pn)) (.Name ev p) (tVar i) := pe_var (X := X.suite a ((a, oe) :: pn)) (S.ok.N_ ▸ hN) (S.ok.scr.vis vis) (okName_of hn).1 (okName_of hn).2
    refine PE.imp' (pe_xf (C := T.ca k) (S.ok.K ▸ xc) (S.ok.K ▸ hno) hz hv hvar rfl) fun σ H Q h => ?_
    obtain ⟨c, σw, eH, R, Sl, ⟨g1, g2, g3⟩, w⟩ := h
    refine ⟨.ref a, g1 i hi, rfl, g2, ?_⟩
    unfold hotF at w
    rw [if_pos hr] at w
    rcases g3 with ⟨z1, z2⟩ | ⟨dd, gs, z1, z2, z3⟩
    · subst z1; exact w.elim
    · rcases fs_lookup hy' z3 with ⟨q1, q2⟩ | ⟨wv, v, q1, q2, q3⟩
      · rw [q1] at w; exact w.elim
      · rw [q1] at w
        exact ⟨dd, gs, v, z1, eH ▸ z2, q2, eH ▸ w c.ρ c.H v (Ext.refl c) R q3⟩
  · exact stuck_g fun σ m => by unfold hotF; rw [if_neg hr]
theorem hot_isa (S : XS T L cl xn n X N sc Wx) (hz : Zc cls d oe) (hv : ∃ vs, oe.data = .fields vs) {i : Nat} (hi : io = some i) (hN : N[i]? = some ev) (hs : isLocal sc ev = true) {p p2 p3 p4 : Pos} {f c : Str} {t : Ty} (hf : f = ("isinstance" : Str)) (hg : glC sc f = true) (hn : okName ev = true)
    (ht : (chTy L t c || decide (c = ("ValueError" : Str) ∧ t = .non)) = true) (hc : glC sc c = true) (hcn : okName c = true) (hcls : cls = .ref (T.ca k)) :
    PE (X.suite a ((a, oe) :: pn)) (.Call (.Name f p) [.Name ev p2, .Name c p3] [] p4) (tEg T noX (Hot T io a k fs cls d) (hotI xn k t)) := by
  subst hf
  cases hx : xn.isa k t with
  | none => exact stuck_g fun σ m => by unfold hotI; rw [hx]
  | some b =>
    obtain ⟨hk, hC⟩ := S.xf.isa k t b hx
    have vis : visC sc ev = true := by
      unfold isLocal at hs
      unfold visC
      split at hs
      · rename_i z; rw [z]
      · cases hs
    have hvar : PE (X.suite a ((a, oe) :: pn)) (.Name ev p2) (tVar i) := pe_var (X := X.suite a ((a, oe) :: pn)) (S.ok.N_ ▸ hN) (S.ok.scr.vis vis) (okName_of hn).1 (okName_of hn).2
    have go : ∀ v : V, (∀ u, RelV v u → u = tyX T t) → PE (X.suite a ((a, oe) :: pn)) (.Name c p3) (tC v) → PE (X.suite a ((a, oe) :: pn)) (.Call (.Name "isinstance" p) [.Name ev p2, .Name c p3] [] p4) (tEg T noX (Hot T io a k fs cls d) (hotI xn k t)) := fun v hvv he => by
      subst hcls
      refine PE.imp' (pe_callB (X := X.suite a ((a, oe) :: pn)) (call_isX (X := X) (S.ok.K ▸ hC) hz hv) (S.ok.gl hg) (S.ok.lf.blt _ (by decide)) (by decide +kernel) (pa_cons hvar (pa_cons he pa_nil rfl) rfl)) fun σ H Q h => ?_
      obtain ⟨c', σw, eH, R, Sl, ⟨g1, g2, g3⟩, w⟩ := h
      unfold hotI at w
      rw [hx] at w
      refine ⟨.ref a, g1 i hi, fun dd hd => ?_, v, tyX T t, b, rfl, hvv, S.ok.K ▸ hk, eH ▸ w c'.ρ c'.H _ (Ext.refl c') R rfl⟩
      rcases g3 with ⟨z1, z2⟩ | ⟨dd', gs, z1, z2, z3⟩
      · rw [hd] at z2; cases z2
      · rw [hd] at z1; cases z1; exact ⟨gs, eH ▸ z2⟩
    have nm : ∀ (s : Str) (ty : String), c = s → s ∈ bltNames → bootBuiltins s = some (.type ty) → s ≠ "__name__" → (.type ty : Value) = tyX T t → PE (X.suite a ((a, oe) :: pn)) (.Call (.Name "isinstance" p) [.Name ev p2, .Name c p3] [] p4) (tEg T noX (Hot T io a k fs cls d) (hotI xn k t)) := fun s ty h1 h2 h3 h4 h5 =>
      go (.ty ty) (fun u hu => hu.trans h5) (by subst h1; exact pe_bltn (X := X.suite a ((a, oe) :: pn)) (S.ok.gl hc) (S.ok.lf.blt _ h2) h3 rfl h4 (okName_of hcn).1)
    rcases Bool.or_eq_true_iff.mp ht with ht | ht
    · cases t with
      | own j =>
        simp only [chTy, beq_iff_eq] at ht
        exact go (.ref (T.ca j)) (fun u hu => hu) (pe_glob (X := X.suite a ((a, oe) :: pn)) (S.ok.gl hc) (S.ok.lf.cls j c ht) rfl (okName_of hcn).1)
      | non => simp [chTy, Ty.nm] at ht
      | bl => simp [chTy, Ty.nm] at ht; exact nm "bool" "bool" ht.symm (by decide) (by decide +kernel) (by decide) rfl
      | int => simp [chTy, Ty.nm] at ht; exact nm "int" "int" ht.symm (by decide) (by decide +kernel) (by decide) rfl
      | str => simp [chTy, Ty.nm] at ht; exact nm "str" "str" ht.symm (by decide) (by decide +kernel) (by decide) rfl
      | lst => simp [chTy, Ty.nm] at ht; exact nm "list" "list" ht.symm (by decide) (by decide +kernel) (by decide) rfl
      | tup => simp [chTy, Ty.nm] at ht; exact nm "tuple" "tuple" ht.symm (by decide) (by decide +kernel) (by decide) rfl
      | dic => simp [chTy, Ty.nm] at ht; exact nm "dict" "dict" ht.symm (by decide) (by decide +kernel) (by decide) rfl
    · obtain ⟨h1, h2⟩ := of_decide_eq_true ht
      subst h2
      exact nm "ValueError" "ValueError" h1 (by decide) (by decide +kernel) (by decide) rfl
end
end MP
end

section
set_option maxHeartbeats 4000000
/-! MPOkT: suites, then all statements. -/
namespace MP
open PySem PySem.Spec PyProof.Rows L2

section
variable {T : Tb} {L : Lx} {cl : Cl} {xn : Xn} {n : Nat} {X : Cx} {N : List Str} {sc : Scope} {Wx : WX}
variable {io : Option Nat} {ev : Str} {a : Addr} {oe : Obj} {pn : List (Addr × Obj)} {k : Nat} {fs : List (Nat × W)} {cls : Value} {d : Option Addr}
structure HX (T : Tb) (L : Lx) (cl : Cl) (xn : Xn) (n : Nat) (X : Cx) (N : List Str) (sc : Scope) (Wx : WX) (io : Option Nat) (ev : Str) (oe : Obj) (k : Nat) (cls : Value) (d : Option Addr) : Prop where
  s : XS T L cl xn n X N sc Wx
  z : Zc cls d oe
  v : ∃ vs, oe.data = .fields vs
  c : cls = .ref (T.ca k)
  i : ev ≠ "" → ∃ i, io = some i ∧ N[i]? = some ev ∧ isLocal sc ev = true
theorem g_C {w : W} {v : V} {G : Cf → L2.St → Prop} {σ : L2.St} {H : Hp} {Q : VK} (h : tEg T noX G (eC w) σ H Q) (hv : ∀ c, RelW T c w v) : tC v σ H Q := tE_C hv σ H Q h.un
mutual
theorem okH (h : HX T L cl xn n X N sc Wx io ev oe k cls d) : ∀ (e : HE) {b : Expr}, chH L N sc ev e b = true → PE (X.suite a ((a, oe) :: pn)) b (tEg T noX (Hot T io a k fs cls d) (hvE xn k fs e))
  | .var i, b, q => by
    simp only [chH] at q
    split at q
    · simp only [Bool.and_eq_true, beq_iff_eq] at q
      obtain ⟨⟨h1, h2⟩, h3⟩ := q
      simp only [hvE]
      exact PE.imp' (pe_var (X := X.suite a ((a, oe) :: pn)) (h.s.ok.N_ ▸ h1) (h.s.ok.scr.vis h2) (okName_of h3).1 (okName_of h3).2) fun σ H Q z => tE_var i σ H Q z.un
    · cases q
  | .non, b, q => by
    simp only [chH] at q
    split at q
    · simp only [hvE]; exact PE.imp' pe_non fun σ H Q z => g_C z (fun c => rfl)
    · cases q
  | .tt, b, q => by
    simp only [chH] at q
    split at q
    · simp only [hvE]; exact PE.imp' pe_bl fun σ H Q z => g_C z (fun c => rfl)
    · cases q
  | .ff, b, q => by
    simp only [chH] at q
    split at q
    · simp only [hvE]; exact PE.imp' pe_bl fun σ H Q z => g_C z (fun c => rfl)
    · cases q
  | .int i, b, q => by
    simp only [chH] at q
    split at q
    · have := of_decide_eq_true q
      subst this
      simp only [hvE]; exact PE.imp' pe_int fun σ H Q z => g_C z (fun c => rfl)
    · cases q
  | .str i, b, q => by
    simp only [chH] at q
    split at q
    · have := of_decide_eq_true q
      subst this
      simp only [hvE]; exact PE.imp' pe_str fun σ H Q z => g_C z (fun c => rfl)
    · cases q
  | .hf f, b, q => by
    simp only [chH] at q
    split at q
    · simp only [Bool.and_eq_true, beq_iff_eq] at q
      obtain ⟨⟨h1, h2⟩, h3⟩ := q
      have := of_decide_eq_true h1
      subst this
      obtain ⟨i, e1, e2, e3⟩ := h.i (okName_ne h2)
      simp only [hvE]
      exact hot_fld h.s h.z h.v e1 e2 e3 h2 h3
    · cases q
  | .hi t, b, q => by
    simp only [chH] at q
    split at q
    · simp only [Bool.and_eq_true] at q
      obtain ⟨⟨⟨⟨⟨⟨h1, h2⟩, h3⟩, h4⟩, h5⟩, h6⟩, h7⟩ := q
      have := of_decide_eq_true h3
      subst this
      obtain ⟨i, e1, e2, e3⟩ := h.i (okName_ne h4)
      simp only [hvE]
      exact hot_isa h.s h.z h.v e1 e2 e3 (of_decide_eq_true h1) h2 h4 h5 h6 h7 h.c
    · cases q
  | .tup es, b, q => by
    simp only [chH] at q
    split at q
    · simp only [hvE]; exact PE.imp' (pe_tup (okHs h es q)) tup_g
    · cases q
  | .cmp op x y, b, q => by
    simp only [chH] at q
    split at q
    · simp only [Bool.and_eq_true] at q
      obtain ⟨⟨⟨h1, h2⟩, h3⟩, h4⟩ := q
      cases coEq h1
      simp only [hvE]
      exact PE.imp' (pe_cmpR (op_cmp' (X := X.suite a ((a, oe) :: pn)) h.s.ok.K h.s.ok.units op) (okH h x h3) (okH h y h4) (nomark' h2)) (two_g Hot.steady (fun _ _ _ _ z => z) (cmpSem_noexc op))
    · cases q
  | .andL es, b, q => by
    simp only [chH] at q
    split at q
    · simp only [hvE]; exact okHand h es q
    · cases q
  | .orL es, b, q => by
    simp only [chH] at q
    split at q
    · simp only [hvE]; exact okHor h es q
    · cases q
  | .not x, b, q => by
    simp only [chH] at q
    split at q
    · simp only [hvE]; exact PE.imp' (pe_not (okH h x q)) not_g
    · cases q
  | .ix x y, b, q => by
    simp only [chH] at q
    split at q
    · simp only [Bool.and_eq_true] at q
      obtain ⟨⟨h1, h2⟩, h3⟩ := q
      simp only [hvE]
      exact PE.imp' (pe_ix (ix_any (X := X.suite a ((a, oe) :: pn)) h.s.ok.K h.s.ok.units) (okH h x h2) (okH h y h3) (plainIx h1)) (two_g Hot.steady (fun _ _ _ _ z => z) ixSem_noexc)
    · cases q
theorem okHs (h : HX T L cl xn n X N sc Wx io ev oe k cls d) : ∀ (es : HEs) {bs : List Expr}, chHs L N sc ev es bs = true → PA (X.suite a ((a, oe) :: pn)) bs (tEsg T noX (Hot T io a k fs cls d) (hvEs xn k fs es))
  | .nil, bs, q => by
    simp only [chHs] at q
    split at q
    · simp only [hvEs]; exact PA.imp' pa_nil nil_g
    · cases q
  | .cons e es, bs, q => by
    simp only [chHs] at q
    split at q
    · simp only [Bool.and_eq_true] at q
      obtain ⟨⟨h1, h2⟩, h3⟩ := q
      simp only [hvEs]; exact PA.imp' (pa_cons (okH h e h2) (okHs h es h3) (star1 h1)) (cons_g Hot.steady)
    · cases q
theorem okHand (h : HX T L cl xn n X N sc Wx io ev oe k cls d) : ∀ (es : HEs) {bs : List Expr} {pos : Pos}, chHs L N sc ev es bs = true → PE (X.suite a ((a, oe) :: pn)) (.BoolOp .And bs pos) (tEg T noX (Hot T io a k fs cls d) (hvAnd xn k fs es))
  | .nil, bs, pos, q => stuck_g fun _ _ => rfl
  | .cons e .nil, bs, pos, q => by
    simp only [chHs] at q
    split at q
    · simp only [Bool.and_eq_true] at q
      obtain ⟨⟨h1, h2⟩, h3⟩ := q
      split at h3
      · simp only [hvAnd]; exact pe_one (okH h e h2)
      · cases h3
    · cases q
  | .cons e (.cons e2 es), bs, pos, q => by
    cases bs with
    | nil => simp [chHs] at q
    | cons x bs =>
      simp only [chHs, Bool.and_eq_true] at q
      obtain ⟨⟨h1, h2⟩, h3⟩ := q
      cases bs with
      | nil => simp at h3
      | cons y bs =>
        have h3' : chHs L N sc ev (.cons e2 es) (y :: bs) = true := by simpa [chHs] using h3
        simp only [hvAnd]; exact PE.imp' (pe_and (okH h e h2) (okHand h (.cons e2 es) h3')) (and_g Hot.steady)
theorem okHor (h : HX T L cl xn n X N sc Wx io ev oe k cls d) : ∀ (es : HEs) {bs : List Expr} {pos : Pos}, chHs L N sc ev es bs = true → PE (X.suite a ((a, oe) :: pn)) (.BoolOp .Or bs pos) (tEg T noX (Hot T io a k fs cls d) (hvOr xn k fs es))
  | .nil, bs, pos, q => stuck_g fun _ _ => rfl
  | .cons e .nil, bs, pos, q => by
    simp only [chHs] at q
    split at q
    · simp only [Bool.and_eq_true] at q
      obtain ⟨⟨h1, h2⟩, h3⟩ := q
      split at h3
      · simp only [hvOr]; exact pe_one (okH h e h2)
      · cases h3
    · cases q
  | .cons e (.cons e2 es), bs, pos, q => by
    cases bs with
    | nil => simp [chHs] at q
    | cons x bs =>
      simp only [chHs, Bool.and_eq_true] at q
      obtain ⟨⟨h1, h2⟩, h3⟩ := q
      cases bs with
      | nil => simp at h3
      | cons y bs =>
        have h3' : chHs L N sc ev (.cons e2 es) (y :: bs) = true := by simpa [chHs] using h3
        simp only [hvOr]; exact PE.imp' (pe_or (okH h e h2) (okHor h (.cons e2 es) h3')) (or_g Hot.steady)
end
/-- a statement of a suite, with the guard -/
def tSg (T : Tb) (Wx : WX) (G : Cf → L2.St → Prop) (r : Sl → M → SR) : TS := fun D σ H => ∃ (c : Cf) (σw : Sl), c.H = H ∧ MP.RelM T c ∧ RelS T c σw σ ∧ G c σ ∧ WpS T Wx c (r σw c.m) D
theorem swaps_no {v : Expr} {t : Option Expr} {l : Nat} {env : Env} (h : noComp v = true) : swapsWith v t l env = pure false := by
  unfold swapsWith
  cases v <;> first | rfl | cases h
theorem okHS (h : HX T L cl xn n X N sc Wx io ev oe k cls d) (hne : io = none ∨ ev ≠ "") (rest : Sl → M → SR) {stmts : List Stmt} (hrest : PSs (X.suite a ((a, oe) :: pn)) stmts (tSg T noX (Hot T io a k fs cls d) rest)) : ∀ (s : HS) {st : Stmt}, chHS L N sc ev s st = true →
    PSs (X.suite a ((a, oe) :: pn)) (st :: stmts) (tSg T noX (Hot T io a k fs cls d) (sSeq (hvS xn k fs s) rest))
  | .asg j e, st, q => by
    simp only [chHS] at q
    split at q
    · rename_i x px v pos
      simp only [Bool.and_eq_true, beq_iff_eq, Bool.not_eq_true', decide_eq_false_iff_not] at q
      obtain ⟨⟨⟨⟨h1, h2⟩, h3⟩, h4⟩, h5⟩ := q
      have he := okH h (a := a) (pn := pn) (fs := fs) e h5
      have hs : PS (X.suite a ((a, oe) :: pn)) (.Assign [.Name x px] v pos) (tAsg (tEg T noX (Hot T io a k fs cls d) (hvE xn k fs e)) (gName j)) :=
        ps_set (X := X.suite a ((a, oe) :: pn)) (h.s.ok.N_ ▸ h.s.ok.nd) (h.s.ok.N_ ▸ h1) (h.s.ok.scr.loc h2) he (swaps_no h4) (h.s.ok.fnl x h2)
      refine PSs.imp' (pss_cons hs hrest) fun D σ H z => ?_
      obtain ⟨c, σw, eH, R, S, g, w⟩ := z
      refine ⟨c, σw, eH, R, S, g, ?_⟩
      have w' : WpS T noX c (thenS σw (hvE xn k fs e σw c.m) fun wv m1 => rest (σw.set j (some wv)) m1) D := by
        simp only [sSeq, hvS, sAsg, thenS, tgSem] at w
        cases hr : hvE xn k fs e σw c.m with
        | ok wv m1 => rw [hr] at w; exact w
        | exc k1 f1 m1 => rw [hr] at w; exact w
        | stuck => rw [hr] at w; exact w
      refine (WpS.thn (R := RelW T) S R w').mono ?_
      rintro v' H1 ⟨c1, wv, e1, ext, R1, rv, w1⟩
      refine ⟨c1, σw.set j (some wv), e1, R1, (S.ext R ext).set j rv, ⟨fun i hi => ?_, (g.2).ext R ext⟩, w1⟩
      have hji : i ≠ j := fun z => by
        subst z
        rcases hne with hn | hn
        · rw [hn] at hi; cases hi
        · obtain ⟨i', e1', e2', e3'⟩ := h.i hn
          rw [hi] at e1'; cases e1'
          rw [h1] at e2'; cases e2'
          exact h3 rfl
      rw [List.getElem?_set_ne (Ne.symm hji)]
      exact g.1 i hi
    · cases q
  | .ret e, st, q => by
    simp only [chHS] at q
    split at q
    · have he := okH h (a := a) (pn := pn) (fs := fs) e q
      refine PSs.imp' (pss_cons (ps_ret he) hrest) fun D σ H z => ?_
      obtain ⟨c, σw, eH, R, S, g, w⟩ := z
      refine ⟨c, σw, eH, R, S, g, ?_⟩
      have w' : WpS T noX c (thenS σw (hvE xn k fs e σw c.m) fun wv m1 => .rt wv m1) D := by
        simp only [sSeq, hvS, sRet, thenS] at w
        cases hr : hvE xn k fs e σw c.m with
        | ok wv m1 => rw [hr] at w; exact w
        | exc k1 f1 m1 => rw [hr] at w; exact w
        | stuck => rw [hr] at w; exact w
      refine (WpS.thn (R := RelW T) S R w').mono ?_
      rintro v' H1 ⟨c1, wv, e1, ext, R1, rv, w1⟩
      exact e1 ▸ w1 c1.ρ c1.H v' (Ext.refl c1) R1 rv
    · cases q
  | .retN, st, q => by
    simp only [chHS] at q
    split at q
    · refine PSs.imp' (pss_cons ps_retN hrest) fun D σ H z => ?_
      obtain ⟨c, σw, eH, R, S, g, w⟩ := z
      exact eH ▸ w c.ρ c.H .non (Ext.refl c) R rfl
    · cases q
  | .pass, st, q => by
    simp only [chHS] at q
    split at q
    · exact PSs.imp' (pss_cons ps_pass hrest) fun D σ H z => z
    · cases q
theorem okHSs (h : HX T L cl xn n X N sc Wx io ev oe k cls d) (hne : io = none ∨ ev ≠ "") : ∀ (ss : List HS) {sts : List Stmt}, chHSs L N sc ev ss sts = true → PSs (X.suite a ((a, oe) :: pn)) sts (tSg T noX (Hot T io a k fs cls d) (hvSs xn k fs ss))
  | [], sts, q => by
    simp only [chHSs] at q
    split at q
    · refine PSs.imp' pss_nil fun D σ H z => ?_
      obtain ⟨c, σw, eH, R, S, g, w⟩ := z
      exact eH ▸ w c.ρ c.H σ (Ext.refl c) R S
    · cases q
  | s :: ss, sts, q => by
    simp only [chHSs] at q
    split at q
    · simp only [Bool.and_eq_true] at q
      exact okHS h hne (hvSs xn k fs ss) (okHSs h hne ss q.2) s q.1
    · cases q
end
end MP
end

section
set_option maxHeartbeats 4000000
/-! MPOkU: all statements. -/
namespace MP
open PySem PySem.Spec PyProof.Rows L2

section
variable {T : Tb} {L : Lx} {cl : Cl} {xn : Xn} {n : Nat}
/-- in the body of a try -/
theorem XS.tr {X : Cx} {N : List Str} {sc : Scope} {Wx W : WX} (S : XS T L cl xn n X N sc Wx) {pn : List (Addr × Obj)} {xe : Value → Shared → Prop} (tk : Takes (X.tr pn xe) W) (po : PassesOwn (model X.prog X.w) X.A X.env xe) : XS T L cl xn n (X.tr pn xe) N sc W :=
  ⟨⟨S.ok.K, S.ok.lf, S.ok.N_, S.ok.nd, S.ok.calm, S.ok.gd, S.ok.room, tk, S.ok.scr, S.ok.fnl, S.ok.c0, S.ok.c1, S.ok.kd⟩, po, S.stk, S.frm, S.xf, S.bk⟩
theorem pss_each {X : Cx} {sts : List Stmt} {t : TS} (h : ∀ D σ H, t D σ H → ∃ t', PSs X sts t' ∧ t' D σ H) : PSs X sts t := ⟨fun pins s σ H D I q => by
  obtain ⟨t', h1, h2⟩ := h D σ H q
  exact h1.run pins s σ H D I h2⟩
/-- the suite's reading, whatever was caught -/
def tCaught (T : Tb) (xn : Xn) (io : Option Nat) (hs : List HS) (a : Addr) (cls : Value) (d : Option Addr) : TS := fun D σ H => ∃ k fs, cls = .ref (T.ca k) ∧ tSg T noX (Hot T io a k fs cls d) (hvSs xn k fs hs) D σ H
theorem calmS_ok {Wx : WX} {c : Cf} {r : SR} {D : Ends} (w : WpS T Wx c (calmS r) D) : WpS T noX c r D := by
  cases r with
  | ex σw k fs m => exact w.elim
  | nx σw m => exact w
  | bk σw m => exact w
  | rt v m => exact w
  | stuck => exact w
theorem wipeC_ok {Wx : WX} {c : Cf} {i : Nat} {r : SR} {D : Ends} (w : WpS T Wx c (wipeR i (calmS r)) D) : WpS T noX c r { nx := fun σ' H' => D.nx (σ'.set i none) H', rt := D.rt, bk := fun σ' H' => D.bk (σ'.set i none) H', ct := fun σ' H' => D.ct (σ'.set i none) H' } := by
  cases r with
  | nx σw m => exact fun ρ H σ x y z => w ρ H (σ.set i none) x y (z.wipe i none)
  | bk σw m => exact fun ρ H σ x y z => w ρ H (σ.set i none) x y (z.wipe i none)
  | rt v m => exact w
  | ex σw k fs m => exact w.elim
  | stuck => exact w
/-- an exception that leaves a suite is not covered -/
theorem tryAs_ok {X : Cx} {N : List Str} {sc : Scope} {Wx : WX} (S : XS T L cl xn n X N sc Wx) {k i : Nat} {hs : List HS} {r : Sl → M → SR} {D : Ends} {σ : L2.St} {H : Hp} (h : tSt T Wx (fun σ m => tryAsR xn k i hs (r σ m)) D σ H) :
    tSt T (wAs X.K (.ref (T.ca k)) i (tCaught T xn (some i) hs) Wx D) r D σ H := by
  obtain ⟨c, σw, eH, R, Sl, w⟩ := h
  refine ⟨c, σw, eH, R, Sl, ?_⟩
  have w : WpS T Wx c (tryAsR xn k i hs (r σw c.m)) D := w
  cases hr : r σw c.m with
  | nx s1 m1 => rw [hr] at w; exact w
  | bk s1 m1 => rw [hr] at w; exact w
  | rt v m1 => rw [hr] at w; exact w
  | stuck => rw [hr] at w; exact w
  | ex s1 k1 f1 m1 =>
    rw [hr] at w
    simp only [tryAsR] at w
    intro ρ H' σ' cls d x y z ei
    split at w
    · rename_i ht
      split at w
      · rename_i hl
        have hm := S.xf.takes k1 k true ht
        refine ⟨true, by rw [ei.1, S.ok.K]; exact hm, fun _ a na => ?_, (fun q => nomatch q)⟩
        refine ⟨k1, f1, ei.1, ⟨ρ, m1, H', c.res⟩, s1.set i none, rfl, y, z.wipe i _, ⟨fun j hj => ?_, ei⟩, ?_⟩
        · cases hj; rw [List.getElem?_set_self (by rw [← z.len]; exact hl)]
        · exact wipeC_ok (WpS.ext w x)
      · exact w.elim
    · rename_i ht
      have hm := S.xf.takes k1 k false ht
      exact ⟨false, by rw [ei.1, S.ok.K]; exact hm, (fun q => nomatch q), fun _ => w ρ H' σ' cls d x y z ei⟩
    · exact w.elim
theorem tryO_ok {X : Cx} {N : List Str} {sc : Scope} {Wx : WX} (S : XS T L cl xn n X N sc Wx) {k : Nat} {hs : List HS} {r : Sl → M → SR} {D : Ends} {σ : L2.St} {H : Hp} (h : tSt T Wx (fun σ m => tryOR xn k hs (r σ m)) D σ H) :
    tSt T (wOnly X.K (.ref (T.ca k)) (tCaught T xn none hs) Wx D) r D σ H := by
  obtain ⟨c, σw, eH, R, Sl, w⟩ := h
  refine ⟨c, σw, eH, R, Sl, ?_⟩
  have w : WpS T Wx c (tryOR xn k hs (r σw c.m)) D := w
  cases hr : r σw c.m with
  | nx s1 m1 => rw [hr] at w; exact w
  | bk s1 m1 => rw [hr] at w; exact w
  | rt v m1 => rw [hr] at w; exact w
  | stuck => rw [hr] at w; exact w
  | ex s1 k1 f1 m1 =>
    rw [hr] at w
    simp only [tryOR] at w
    intro ρ H' σ' cls d x y z ei
    split at w
    · rename_i ht
      have hm := S.xf.takes k1 k true ht
      refine ⟨true, by rw [ei.1, S.ok.K]; exact hm, fun _ a na => ?_, (fun q => nomatch q)⟩
      exact ⟨k1, f1, ei.1, ⟨ρ, m1, H', c.res⟩, s1, rfl, y, z, ⟨(fun j hj => nomatch hj), ei⟩, calmS_ok (WpS.ext w x)⟩
    · rename_i ht
      have hm := S.xf.takes k1 k false ht
      exact ⟨false, by rw [ei.1, S.ok.K]; exact hm, (fun q => nomatch q), fun _ => w ρ H' σ' cls d x y z ei⟩
    · exact w.elim
theorem raise0_ok {X : Cx} {N : List Str} {sc : Scope} {Wx : WX} (S : XS T L cl xn n X N sc Wx) {k : Nat} {D : Ends} {σ : L2.St} {H : Hp} (h : tSt T Wx (sRaise0 xn k) D σ H) : xn.plain k = true ∧ Wx (.ref (T.ca k)) none σ H := by
  obtain ⟨c, σw, eH, R, Sl, w⟩ := h
  unfold sRaise0 at w
  split at w
  · rename_i hp
    exact ⟨hp, eH ▸ w c.ρ c.H σ _ _ (Ext.refl c) R Sl ⟨rfl, .inl ⟨rfl, rfl⟩⟩⟩
  · exact w.elim
theorem ps_false {X : Cx} {st : Stmt} {t : TS} (h : ∀ D σ H, ¬ t D σ H) : PS X st t := ⟨fun _ _ σ H D _ q => (h D σ H q).elim⟩
theorem swaps_cell {v : Expr} {x : Str} {p : Pos} {l : Nat} {env : Env} (h : env.kindOf x = some .cell) : swapsWith v (some (.Name x p)) l env = pure false := by
  unfold swapsWith
  cases v <;> first | rfl | (simp [h, show (NameKind.cell == NameKind.local) = false from rfl])
def noList : Expr → Bool
  | .List _ _ => false
  | _ => true
theorem stores_no {t v : Expr} {env : Env} (h : (noTuple v || noTuple t) = true) (hl : noList t = true) : swappedStores [t] v env = pure none := by
  unfold swappedStores
  cases v <;> first | rfl | (cases t <;> first | rfl | (simp [noTuple, noList] at h hl))
theorem noList_of {N : List Str} {sc : Scope} {tg : Tg} {t : Expr} (h : chTg N sc tg t = true) : noList t = true := by
  cases tg <;> cases t <;> first | rfl | (simp [chTg] at h)
theorem assign1 {t : Expr} {env : Env} (h : noStar t = true) : (assignEach [t] env).map (·.2) = [assign t env] := by
  cases t <;> first | rfl | cases h
theorem noStar_of {N : List Str} {sc : Scope} {tg : Tg} {t : Expr} (h : chTg N sc tg t = true) : noStar t = true := by
  cases tg <;> cases t <;> first | rfl | (simp [chTg] at h)
theorem swaps_same {el it t : Expr} {ifs : List Expr} {s2 : Scope} {q p : Pos} {x : Str} {l : Nat} {env : Env} (hb : env.blockKind = .function) (hk : env.kindOf x = some .local) (h : sameLine x p q s2 = true) : swapsWith (.ListComp el [⟨t, it, ifs, 0⟩] s2 q) (some (.Name x p)) l env = pure true := by
  unfold sameLine at h
  simp only [Bool.and_eq_true] at h
  unfold swapsWith
  show pure (env.blockKind == .function && env.kindOf x == some .local && p.line == q.line && !(s2.names.any fun (n, k) => n == x && (k == .local || k == .cell))) = _
  rw [hb, hk, h.1, h.2]
  rfl
theorem swaps_attr {v t : Expr} {l : Nat} {env : Env} (h : match t with | .Name _ _ => False | _ => True) : swapsWith v (some t) l env = pure false := by
  unfold swapsWith
  cases v <;> first | rfl | (cases t <;> first | rfl | exact h.elim)
theorem local_of {a b : Scope} {x : Str} (h : ScRel a b) (e : isLocal a x = true) : b.names.lookup x = some .local := by
  have q := h x
  unfold isLocal at e
  split at e
  · rename_i z; rw [z] at q; exact q
  · cases e
theorem cell_of {a b : Scope} {x : Str} (h : ScRel a b) (e : isCell a x = true) : b.names.lookup x = some .cell := by
  have q := h x
  unfold isCell at e
  split at e
  · rename_i z; rw [z] at q; exact q
  · cases e
theorem gName_of {i : Nat} {v : V} {σ : L2.St} {H : Hp} {Q : L2.St → Hp → Prop} (h : tG T (.nm i) v σ H Q) : gName i v σ H Q := by
  obtain ⟨c, σw, w, eH, R, S, rw', q⟩ := h
  exact q _ (S.set i rw') (SameOff.set (SameOff.refl _ _))
theorem tE_mono {Wx : WX} {r : Sl → M → Res W} {σ : L2.St} {H : Hp} {Q Q' : VK} (k : ∀ v H, Q v H → Q' v H) (h : tE T Wx r σ H Q) : tE T Wx r σ H Q' := let ⟨c, σw, a, b, d, e⟩ := h; ⟨c, σw, a, b, d, e.mono k⟩
theorem asg_sub {o i : Expr} {pos : Pos} {env : Env} (h : noSlice i = true) (v : Value) : assign (.Subscript o i pos) env v = (do
      let ov ← holding [v] (eval o env)
      let iv ← holding [v, ov] (eval i env)
      standAt pos
      holding [v, ov, iv] (setItem ov iv v)
      release [v, ov, iv] []) := by
  cases i <;> first | rfl | cases h
mutual
theorem okS : ∀ (s : S) {X : Cx} {N : List Str} {sc : Scope} {Wx : WX} {st : Stmt}, XS T L cl xn n X N sc Wx → chS L N sc s st = true → PS X st (tSt T Wx (evS cl xn s))
  | .pass, X, N, sc, Wx, st, S, h => by
    simp only [chS] at h
    split at h
    · simp only [evS]; exact PS.imp' ps_pass sNext_t
    · cases h
  | .ret e, X, N, sc, Wx, st, S, h => by
    simp only [chS] at h
    split at h
    · simp only [evS]; exact PS.imp' (ps_ret (okE e S.ok h)) sRet_t
    · cases h
  | .retN, X, N, sc, Wx, st, S, h => by
    simp only [chS] at h
    split at h
    · simp only [evS]; exact PS.imp' ps_retN sRetN_t
    · cases h
  | .brk, X, N, sc, Wx, st, S, h => by
    simp only [chS] at h
    split at h
    · simp only [evS]; exact PS.imp' ps_break sBreak_t
    · cases h
  | .expr e, X, N, sc, Wx, st, S, h => by
    simp only [chS] at h
    split at h
    · simp only [Bool.and_eq_true] at h
      simp only [evS]; exact PS.imp' (ps_expr (okE e S.ok h.2) (swaps_no h.1)) sDrop_t
    · cases h
  | .ife b x y, X, N, sc, Wx, st, S, h => by
    simp only [chS] at h
    split at h
    · simp only [Bool.and_eq_true] at h
      simp only [evS]; exact PS.imp' (ps_if (okB b S.ok h.1.1) (okSs x S h.1.2) (okSs y S h.2)) sIf_t
    · cases h
  | .asg tg e, X, N, sc, Wx, st, S, h => by
    simp only [chS] at h
    split at h
    · simp only [Bool.and_eq_true] at h
      obtain ⟨⟨⟨h1, h2⟩, h3⟩, h4⟩ := h
      simp only [evS]
      exact PS.imp' (ps_asg (okE e S.ok h4) (pg_of S.ok.K S.ok.calm S.ok.N_ S.ok.nd S.ok.scr S.ok.fnl h3) (swaps_no h1) (stores_no h2 (noList_of h3)) (assign1 (noStar_of h3))) sAsg_t
    · cases h
  | .asgC i frz src tg own cs e, X, N, sc, Wx, st, S, h => by
    simp only [chS] at h
    split at h
    · rename_i x p el t it ifs s2 q pos
      simp only [Bool.and_eq_true, beq_iff_eq, Bool.or_eq_true] at h
      obtain ⟨⟨⟨⟨⟨⟨⟨⟨h1, h2⟩, h3⟩, h4⟩, h5⟩, h6⟩, h7⟩, h8⟩, h9⟩ := h
      have h5' : ∀ j ∈ tg.slots, j ∈ own.map (·.2) := fun j hj => of_decide_eq_true (List.all_eq_true.mp h5 j hj)
      simp only [evS]
      rcases h2 with ⟨hl, hs⟩ | hc
      · have hloc := local_of S.ok.scr hl
        refine PS.imp' (ps_setLc S.ok.calm (S.ok.N_ ▸ S.ok.nd) (S.ok.N_ ▸ h1) hloc (swaps_same S.bk hloc hs) (okI src S.ok h6 h7) (S.ok.N_ ▸ ScRel.blk (sc := sc) S.ok.scr h4) (g := tG T tg) (tt := tB T noX (evC cl cs)) (te := tE T noX (evE cl e))
          (fun s H C cl' fp => ?_) (fun s H C cl' fp => okC cs (S.ok.blk s H s2 C cl' fp) h8) (fun s H C cl' fp => okE e (S.ok.blk s H s2 C cl' fp) h9) (folded h3)) fun D σ H z => ?_
        · have ok2 := S.ok.blk s H s2 C cl' fp
          exact pg_of ok2.K ok2.calm ok2.N_ ok2.nd ok2.scr ok2.fnl h7
        · have z1 := sAsg_t D σ H z
          have z2 : tE T Wx (eComp cl.F frz (evI cl src) ⟨tg, evC cl cs, evE cl e, own.map (·.2)⟩) σ H (fun v H1 => tG T (.nm i) v σ H1 D.nx) := z1
          exact comp_tLc (p := ⟨tg, evC cl cs, evE cl e, own.map (·.2)⟩) h5' σ H _ (tE_mono (fun v H1 y => gName_of y) z2)
      · have hcell := cell_of S.ok.scr hc
        have hE : PE X (.ListComp el [⟨t, it, ifs, 0⟩] s2 q) (tE T Wx (eComp cl.F frz (evI cl src) ⟨tg, evC cl cs, evE cl e, own.map (·.2)⟩)) := by
          refine PE.imp' (pe_lc S.ok.calm (S.ok.N_ ▸ S.ok.nd) (okI src S.ok h6 h7) (S.ok.N_ ▸ ScRel.blk (sc := sc) S.ok.scr h4) (g := tG T tg) (tt := tB T noX (evC cl cs)) (te := tE T noX (evE cl e))
            (fun s H C cl' fp => ?_) (fun s H C cl' fp => okC cs (S.ok.blk s H s2 C cl' fp) h8) (fun s H C cl' fp => okE e (S.ok.blk s H s2 C cl' fp) h9) (folded h3)) (comp_tLc (p := ⟨tg, evC cl cs, evE cl e, own.map (·.2)⟩) h5')
          have ok2 := S.ok.blk s H s2 C cl' fp
          exact pg_of ok2.K ok2.calm ok2.N_ ok2.nd ok2.scr ok2.fnl h7
        exact PS.imp' (ps_asg hE (pg_nm (S.ok.N_ ▸ S.ok.nd) (S.ok.N_ ▸ h1) (.inr hcell) (S.ok.fnl x (by unfold isCell at hc; unfold locC; split at hc <;> simp_all))) (swaps_cell (v := .ListComp el [⟨t, it, ifs, 0⟩] s2 q) (p := p) (l := pos.line) (env := X.env) hcell) rfl rfl) sAsg_t
    · cases h
  | .put f o e, X, N, sc, Wx, st, S, h => by
    simp only [chS] at h
    split at h
    · simp only [Bool.and_eq_true, beq_iff_eq] at h
      obtain ⟨⟨h1, h2⟩, h3⟩ := h
      simp only [evS]
      refine PS.imp' (ps_fld (okE o S.ok h2) (okE e S.ok h3) (swaps_attr trivial)) ?_
      rw [S.ok.K]
      exact sFldPut_t S.ok.lf.cn (S.ok.lf.names ▸ h1)
    · cases h
  | .item o j e, X, N, sc, Wx, st, S, h => by
    simp only [chS] at h
    split at h
    · rename_i b r p v pos
      simp only [Bool.and_eq_true] at h
      obtain ⟨⟨⟨h1, h2⟩, h3⟩, h4⟩ := h
      simp only [evS]
      exact PS.imp' (ps_asg (okE e S.ok h4) (pg_sub (okE o S.ok h2) (okE j S.ok h3) (pset S.ok.K S.ok.units) (asg_sub h1)) (swaps_attr (v := v) (t := .Subscript b r p) (l := pos.line) (env := X.env) trivial) (by unfold swappedStores; cases v <;> rfl) rfl) sItemPut_t
    · cases h
  | .for_ tg src x, X, N, sc, Wx, st, S, h => by
    simp only [chS] at h
    split at h
    · simp only [Bool.and_eq_true] at h
      obtain ⟨⟨⟨h1, h2⟩, h3⟩, h4⟩ := h
      simp only [evS]
      exact PS.imp' (ps_for S.own S.ok.calm (okI src S.ok h3 h2) (pg_of S.ok.K S.ok.calm S.ok.N_ S.ok.nd S.ok.scr S.ok.fnl h2) (okSs x S h4) (folded h1)) sFor_t
    · cases h
  | .frzv i t, X, N, sc, Wx, st, S, h => by
    simp only [chS] at h
    simp only [evS]
    exact PS.imp' (okS t S h) sFrz_t
  | .whl b x, X, N, sc, Wx, st, S, h => by
    simp only [chS] at h
    split at h
    · simp only [Bool.and_eq_true] at h
      simp only [evS]
      exact PS.imp' (ps_while S.own (okB b S.ok h.1) (okSs x S h.2)) sWhile_t
    · cases h
  | .raise0 k, X, N, sc, Wx, st, S, h => by
    simp only [chS] at h
    split at h
    · simp only [Bool.and_eq_true, beq_iff_eq] at h
      obtain ⟨⟨h1, h2⟩, h3⟩ := h
      simp only [evS]
      by_cases hp : xn.plain k = true
      · obtain ⟨q1, q2, q3, q4⟩ := S.xf.plain k hp
        refine PS.imp' (ps_raise S.ok.calm S.ok.tk (pmk_none PySem.F.excBase_ValueError (S.ok.K ▸ q1) (S.ok.lf.cls k _ h1) (S.ok.K ▸ q2) (raises_own (S.ok.K ▸ q3) (S.ok.K ▸ q4)) (S.ok.gl h2) (okName_of h3).1)) fun D σ H z => (raise0_ok S z).2
      · exact ps_false fun D σ H z => hp (raise0_ok S z).1
    · cases h
  | .raiseT k, X, N, sc, Wx, st, S, h => by
    simp only [chS] at h
    split at h
    · simp only [Bool.and_eq_true, beq_iff_eq] at h
      obtain ⟨⟨h1, h2⟩, h3⟩ := h
      simp only [evS]
      by_cases hp : xn.plain k = true
      · obtain ⟨q1, q2, q3, q4⟩ := S.xf.plain k hp
        refine PS.imp' (ps_raise S.ok.calm S.ok.tk (L2.pmk_own PySem.F.excBase_ValueError (S.ok.K ▸ q1) (S.ok.lf.cls k _ h1) (S.ok.K ▸ q2) (raises_own (S.ok.K ▸ q3) (S.ok.K ▸ q4)) (S.ok.gl h2) (okName_of h3).1)) fun D σ H z => (raise0_ok S z).2
      · exact ps_false fun D σ H z => hp (raise0_ok S z).1
    · cases h
  | .raiseF k f e, X, N, sc, Wx, st, S, h => by
    simp only [chS] at h
    split at h
    · simp only [Bool.and_eq_true, beq_iff_eq] at h
      obtain ⟨⟨⟨⟨h1, h2⟩, h3⟩, h4⟩, h5⟩ := h
      simp only [evS]
      by_cases hp : xn.field k = some f
      · obtain ⟨nm, hnm⟩ := S.xf.nmd k f hp
        have hs := S.xf.fld k f nm hp hnm
        refine PS.imp' (ps_raise S.ok.calm S.ok.tk (hs X _ _ _ _ _ rfl S.ok.K S.ok.calm (S.ok.room.mono (by omega)) (S.ok.lf.cls k _ h1) (S.ok.gl h2) (okName_of h3).1 h4 (okE e S.ok h5))) fun D σ H z => ?_
        obtain ⟨c, σw, eH, R, Sl, w⟩ := z
        unfold sRaiseF at w
        rw [if_pos hp] at w
        refine ⟨c, σw, eH, R, Sl, (WpS.thn (R := RelW T) Sl R w).mono ?_⟩
        rintro v H1 ⟨c1, wv, e1, ext, R1, rv, w1⟩ d hd
        subst e1
        have x2 := R1.extPut (u := .xd [(nm, v)]) hd
        have R2 := R1.put (u := .xd [(nm, v)]) hd
        exact w1 c1.ρ _ σ _ _ x2 R2 ((Sl.ext R ext).ext R1 x2) ⟨rfl, .inr ⟨d, [(nm, v)], rfl, upd_same, .cons ⟨hnm, rv.ext R1 x2⟩ .nil⟩⟩
      · exact ps_false fun D σ H z => by
          obtain ⟨c, σw, eH, R, Sl, w⟩ := z
          unfold sRaiseF at w
          rw [if_neg hp] at w
          exact w
    · cases h
  | .tryAs x k i hs, X, N, sc, Wx, st, S, h => by
    simp only [chS] at h
    split at h
    · rename_i b c np nm h0 hh pos' pos
      simp only [Bool.and_eq_true, beq_iff_eq] at h
      obtain ⟨⟨⟨⟨⟨⟨⟨h1, h2⟩, h3⟩, h4⟩, h5⟩, h6⟩, h7⟩, h8⟩ := h
      simp only [evS]
      have hloc := local_of S.ok.scr h2
      refine PS.imp' (ps_try_as (i := i) (tb := fun W => tSt T W (evSs cl xn x)) (ts := tCaught T xn (some i) hs) (Wout := Wx) S.stk S.frm (S.ok.N_ ▸ S.ok.nd) (S.ok.N_ ▸ h1) hloc ⟨S.ok.gl h5, (okName_of h6).1, .inl (S.ok.lf.cls k c h4)⟩ S.ok.tk
        (fun W pn xe tk po => okSs x (S.tr tk po) h7) fun a oe cls d pn hz hv => pss_each fun D σ H z => ?_) fun D σ H z => tryAs_ok S z
      obtain ⟨k', fs, ec, z⟩ := z
      exact ⟨_, okHSs (io := some i) (ev := nm) ⟨S, hz, hv, ec, fun _ => ⟨i, rfl, h1, h2⟩⟩ (.inr (okName_ne h3)) hs h8, z⟩
    · cases h
  | .tryO x k hs, X, N, sc, Wx, st, S, h => by
    simp only [chS] at h
    split at h
    · rename_i b c np h0 hh pos' pos
      simp only [Bool.and_eq_true, beq_iff_eq] at h
      obtain ⟨⟨⟨⟨h4, h5⟩, h6⟩, h7⟩, h8⟩ := h
      simp only [evS]
      refine PS.imp' (ps_try_only (tb := fun W => tSt T W (evSs cl xn x)) (ts := tCaught T xn none hs) (Wout := Wx) S.stk S.frm ⟨S.ok.gl h5, (okName_of h6).1, .inl (S.ok.lf.cls k c h4)⟩ S.ok.tk
        (fun W pn xe tk po => okSs x (S.tr tk po) h7) fun a oe cls d pn hz hv => pss_each fun D σ H z => ?_) fun D σ H z => tryO_ok S z
      obtain ⟨k', fs, ec, z⟩ := z
      exact ⟨_, okHSs (io := none) (ev := "") ⟨S, hz, hv, ec, fun q => absurd rfl q⟩ (.inl rfl) hs h8, z⟩
    · cases h
theorem okSs : ∀ (ss : Ss) {X : Cx} {N : List Str} {sc : Scope} {Wx : WX} {sts : List Stmt}, XS T L cl xn n X N sc Wx → chSs L N sc ss sts = true → PSs X sts (tSt T Wx (evSs cl xn ss))
  | .nil, X, N, sc, Wx, sts, S, h => by
    simp only [chSs] at h
    split at h
    · simp only [evSs]; exact PSs.imp' pss_nil sNext_t
    · cases h
  | .cons s .nil, X, N, sc, Wx, sts, S, h => by
    simp only [chSs] at h
    split at h
    · simp only [Bool.and_eq_true] at h
      obtain ⟨h1, h2⟩ := h
      split at h2
      · simp only [evSs]; exact pss_one (okS s S h1)
      · cases h2
    · cases h
  | .cons s (.cons s2 ss), X, N, sc, Wx, sts, S, h => by
    cases sts with
    | nil => simp [chSs] at h
    | cons st sts =>
      have h' : chS L N sc s st = true ∧ chSs L N sc (.cons s2 ss) sts = true := by
        rw [chSs] at h
        simpa using h
      simp only [evSs]
      exact PSs.imp' (pss_cons (okS s S h'.1) (okSs (.cons s2 ss) S h'.2)) sSeq_t
end
end
end MP
end

section
set_option maxHeartbeats 4000000
/-! MPFn: the defs of a text, by their trees. -/
namespace MP
open PySem PySem.Spec PyProof.Rows L2

structure Fi where
  ps : List Str
  N : List Str
  dfs : List W
  body : Ss
def pad (fi : Fi) (ws : List W) : Option (List W) := if ws.length ≤ fi.ps.length ∧ fi.ps.length ≤ ws.length + fi.dfs.length then some (ws ++ fi.dfs.drop (fi.dfs.length - (fi.ps.length - ws.length))) else none
def startW (fi : Fi) (ws : List W) : Sl := ws.map some ++ List.replicate (fi.N.length - ws.length) none
def asRes : SR → Res W
  | .nx _ m => .ok .non m
  | .rt w m => .ok w m
  | .ex _ k fs m => .exc k fs m
  | _ => .stuck
def runFn (cl : Cl) (xn : Xn) (fi : Fi) (ws : List W) (m : M) : Res W := match pad fi ws with
  | none => .stuck
  | some us => asRes (evSs cl xn fi.body (startW fi us) m)
/-- a text: its defs and tables -/
structure Tx where
  fns : List Fi
  g : Cn
  mt : Nat → Nat → Option Nat
  ini : Nat → Option Nat
  gvs : List W
  xn : Xn
  F : Nat
  kds : List (List (Str × At))
def noF : Nat → List W → M → Res W := fun _ _ _ => .stuck
def Tx.cl (t : Tx) (c0 c1 : Nat → List W → M → Res W) : Cl := ⟨c0, c1, t.g, t.mt, t.ini, t.gvs, t.F, t.kds⟩
def Tx.step (t : Tx) (c0 c1 : Nat → List W → M → Res W) : Nat → List W → M → Res W := fun i ws m => match t.fns[i]? with
  | some fi => runFn (t.cl c0 c1) t.xn fi ws m
  | none => .stuck
def Tx.call (t : Tx) : Nat → Nat → List W → M → Res W
  | 0 => noF
  | 1 => t.step noF noF
  | n + 2 => t.step (t.call (n + 1)) (t.call n)
/-- what the head must give of each def -/
structure Ff (T : Tb) (L : Lx) (t : Tx) : Prop where
  ex : ∀ (i : Nat) (fi : Fi), t.fns[i]? = some fi → ∃ (oc : Value) (od : Option Addr) (nm qual : Str) (pr : Arguments) (bd : List Stmt) (sc : Scope) (dV kV doc pm cv ct : Value) (an : Option Addr) (osl : Array (Option Value)),
    T.K.lookup (T.fa i) = some ⟨oc, od, .func (PySem.W.fnOf nm qual pr bd sc dV kV doc pm an cv ct), osl⟩ ∧ PySem.W.codeIn T.K cv qual = true ∧ FnScope fi.N fi.ps sc ∧ chSs L fi.N sc fi.body bd = true ∧
      ∀ j, j ≤ fi.dfs.length → ∃ (ds : List Value) (dvs : List V), Binds T.K (PySem.W.fnOf nm qual pr bd sc dV kV doc pm an cv ct) fi.ps ds ∧ Vals dvs ds ∧ ∀ c, RelWs T c (fi.dfs.drop j) dvs
section
variable {P : Program} {w : World} {T : Tb} {mg : Str → Option Value} {base : Heap} {L : Lx} {t : Tx}
theorem fnG_stuck {K : PySem.W.Frag} {n : Nat} {f : Addr} {sem : List W → M → Res W} (h : ∀ ws m, sem ws m = .stuck) : FnG P w K mg base n f (spC T sem) := ⟨fun A up s H us vs Q E _ _ _ _ ⟨c, ws, _, _, _, q⟩ => by rw [h] at q; exact q.elim⟩
theorem ScRel.refl (a : Scope) : ScRel a a := fun x => by
  cases h : a.names.lookup x with
  | none => trivial
  | some k => cases k <;> simp
theorem startW_rel {c : Cf} {fi : Fi} {ws : List W} {vs : List V} (r : RelWs T c ws vs) : RelS T c (startW fi ws) (start fi.N vs) := by
  refine ⟨by unfold startW L2.start; simp [r.length], fun i x h => ?_⟩
  unfold startW at h
  unfold L2.start
  by_cases hi : i < ws.length
  · rw [List.getElem?_append_left (by simpa using hi), List.getElem?_map] at h
    obtain ⟨x', e1, e2⟩ := Option.map_eq_some_iff.mp h
    cases e2
    obtain ⟨v, e3, e4⟩ := r.get e1
    exact ⟨v, by rw [List.getElem?_append_left (by rw [List.length_map, ← r.length]; exact hi), List.getElem?_map, e3]; rfl, e4⟩
  · rw [List.getElem?_append_right (by simpa using hi)] at h
    rw [List.getElem?_replicate] at h
    split at h <;> cases h
theorem asRes_ok {E : XK} {c : Cf} {r : SR} {Q : VK} (w : Wp T (fun cls d _ H => E cls d H) [] (RelW T) c (asRes r) Q) : WpS T (fun cls d _ H => E cls d H) c r { nx := fun _ H' => Q .non H', rt := Q } := by
  cases r with
  | nx σ m => exact fun ρ H σ x y z => w ρ H .non x y rfl
  | rt v m => exact w
  | bk σ m => exact w.elim
  | ex σ k fs m => exact fun ρ H σ cls d x y z e => w ρ H cls d x y e
  | stuck => exact w
theorem step_ok {n : Nat} {c0 c1 : Nat → List W → M → Res W} (lf : Lf T mg L (t.cl c0 c1)) (xf : Xf P T L t.xn) (ff : Ff T L t) (kd : KdF T.K w mg L t.kds) (h0 : ∀ i, FnG P w T.K mg base (n + 2) (T.fa i) (spC T (c0 i))) (h1 : ∀ i, FnG P w T.K mg base (n + 1) (T.fa i) (spC T (c1 i))) (i : Nat) :
    FnG P w T.K mg base (n + 3) (T.fa i) (spC T (t.step c0 c1 i)) := by
  cases hf : t.fns[i]? with
  | none => exact fnG_stuck fun ws m => by unfold Tx.step; rw [hf]
  | some fi =>
    obtain ⟨oc, od, nm, qual, pr, bd, sc, dV, kV, doc, pm, cv, ct, an, osl, lk, hcd, S, hch, hbs⟩ := ff.ex i fi hf
    refine fnG_of (N := fi.N) (ps := fi.ps) lk hcd S fun vs H Q E hsp => ?_
    obtain ⟨c, ws, eH, R, rws, q⟩ := hsp
    subst eH
    have q : Wp T (fun cls d _ H => E cls d H) [] (RelW T) c (t.step c0 c1 i ws c.m) Q := q
    unfold Tx.step at q
    rw [hf] at q
    simp only [runFn] at q
    split at q
    · exact q.elim
    · rename_i us hp
      unfold pad at hp
      split at hp
      · rename_i hc
        obtain ⟨ds, dvs, b1, b2, b3⟩ := hbs (fi.dfs.length - (fi.ps.length - ws.length)) (Nat.sub_le _ _)
        cases hp
        have rr := RelWs.append rws (b3 c)
        refine ⟨ds, dvs, b1, b2, ?_, fun A up s hr hg => ?_⟩
        · rw [List.length_append, ← rws.length, ← (b3 c).length, List.length_drop]
          omega
        · have sc' : XS T L (t.cl c0 c1) t.xn n (cxOf (L2.CX P w) P w T.K mg base fi.N qual sc (T.fa i) cv A up s c.H E) fi.N sc (fun cls d _ H => E cls d H) := by
            refine ⟨⟨rfl, lf, rfl, S.nd, rfl, hg, hr, takes_of rfl rfl rfl rfl, ScRel.refl sc, fun x _ => .inl rfl, h0, h1, kd⟩, passes_of rfl, rfl, rfl, xf, ?_⟩
            show Env.blockKind _ = _
            unfold Env.blockKind; simp [cxOf, envOfC, S.kind]
          exact ⟨_, okSs fi.body sc' hch, c, startW fi (ws ++ fi.dfs.drop (fi.dfs.length - (fi.ps.length - ws.length))), rfl, R, startW_rel rr, asRes_ok q⟩
      · cases hp
/-- every def keeps its promise -/
theorem call_ok (lf : ∀ c0 c1, Lf T mg L (t.cl c0 c1)) (xf : Xf P T L t.xn) (ff : Ff T L t) (kd : KdF T.K w mg L t.kds) : ∀ n i, FnG P w T.K mg base (n + 2) (T.fa i) (spC T (t.call n i))
  | 0, i => fnG_stuck fun _ _ => rfl
  | 1, i => step_ok (lf _ _) xf ff kd (fun _ => fnG_stuck fun _ _ => rfl) (fun _ => fnG_stuck fun _ _ => rfl) i
  | n + 2, i => step_ok (lf _ _) xf ff kd (call_ok lf xf ff kd (n + 1)) (call_ok lf xf ff kd n) i
end
end MP
end

section
set_option maxHeartbeats 4000000
/-! MPBind: how parameters are bound, for any number of them, with defaults. -/
namespace MP
open PySem PySem.Spec PyProof.Rows L2

def dstep (r : List (Str × Value)) (p : Str × Value) : List (Str × Value) := if (r.lookup p.1).isNone then r ++ [p] else r
theorem forIn_step : ∀ (l : List (Str × Value)) (r : List (Str × Value)), (forIn l r fun (p : Str × Value) r => (if (r.lookup p.1).isNone = true then pure (ForInStep.yield (r ++ [(p.1, p.2)])) else pure (ForInStep.yield r) : Sem _)) = pure (l.foldl dstep r)
  | [], r => rfl
  | p :: l, r => by
    rw [List.forIn_cons]
    by_cases h : (r.lookup p.1).isNone = true
    · rw [if_pos h, pure_bind]
      show forIn l _ _ = _
      rw [forIn_step l]
      simp [dstep, h]
    · rw [if_neg h, pure_bind]
      show forIn l _ _ = _
      rw [forIn_step l]
      simp [dstep, h]
theorem look_some {x : Str} : ∀ (r : List (Str × Value)), (r.lookup x).isSome = true ↔ x ∈ r.map (·.1)
  | [] => by simp
  | (y, v) :: r => by
    cases h : x == y with
    | true => simp only [List.lookup_cons, h]; have : x = y := by simpa using h
              simp [this]
    | false =>
      have : x ≠ y := by simpa using h
      simp only [List.lookup_cons, h, look_some r]
      simp [this]
theorem look_none {x : Str} (r : List (Str × Value)) : (r.lookup x).isNone = true ↔ x ∉ r.map (·.1) := by
  rw [← look_some]
  cases r.lookup x <;> simp
theorem fold_in : ∀ (l r : List (Str × Value)), (∀ p ∈ l, p.1 ∈ r.map (·.1)) → l.foldl dstep r = r
  | [], r, _ => rfl
  | p :: l, r, h => by
    have h1 : ¬ ((r.lookup p.1).isNone = true) := fun z => (look_none r).mp z (h p (List.mem_cons_self ..))
    rw [List.foldl_cons]
    have : dstep r p = r := by unfold dstep; rw [if_neg h1]
    rw [this]
    exact fold_in l r fun q hq => h q (List.mem_cons_of_mem _ hq)
theorem fold_out : ∀ (l r : List (Str × Value)), (l.map (·.1)).Nodup → (∀ p ∈ l, p.1 ∉ r.map (·.1)) → l.foldl dstep r = r ++ l
  | [], r, _, _ => by simp
  | p :: l, r, hn, h => by
    have h1 : (r.lookup p.1).isNone = true := (look_none r).mpr (h p (List.mem_cons_self ..))
    rw [List.foldl_cons]
    have e : dstep r p = r ++ [p] := by unfold dstep; rw [if_pos h1]
    rw [e, fold_out l (r ++ [p])]
    · simp
    · exact (List.nodup_cons.mp hn).2
    · intro q hq
      rw [List.map_append, List.mem_append, not_or]
      refine ⟨h q (List.mem_cons_of_mem _ hq), fun z => ?_⟩
      have : q.1 = p.1 := by simpa using z
      have mm : q.1 ∈ l.map (·.1) := List.mem_map_of_mem hq
      rw [this] at mm
      exact (List.nodup_cons.mp hn).1 mm
theorem zip_fst {α β : Type} : ∀ (l : List α) (r : List β), (l.zip r).map (·.1) = l.take r.length
  | [], _ => by simp
  | a :: l, [] => by simp
  | a :: l, b :: r => by simp [zip_fst l r]
theorem filt_self : ∀ (l : List (Str × Value)) (r : List (Str × Value)), (l.map (·.1)).Nodup → (∀ p ∈ l, r.lookup p.1 = some p.2) → (l.map (·.1)).filterMap (fun n => (r.lookup n).map fun v => (n, v)) = l
  | [], r, _, _ => rfl
  | p :: l, r, hn, h => by
    rw [List.map_cons, List.filterMap_cons, h p (List.mem_cons_self ..)]
    simp only [Option.map_some]
    rw [filt_self l r (List.nodup_cons.mp hn).2 fun q hq => h q (List.mem_cons_of_mem _ hq)]
theorem look_mem : ∀ {l : List (Str × Value)} {p : Str × Value}, (l.map (·.1)).Nodup → p ∈ l → l.lookup p.1 = some p.2
  | [], _, _, h => by simp at h
  | q :: l, p, hn, h => by
    obtain ⟨qa, qb⟩ := q
    rcases List.mem_cons.mp h with e | h
    · subst e; simp [List.lookup_cons]
    · have ne : (p.1 == qa) = false := by
        have hh := (List.nodup_cons.mp hn).1
        have mm : p.1 ∈ l.map (·.1) := List.mem_map_of_mem h
        have : p.1 ≠ qa := fun z => by rw [z] at mm; exact hh mm
        simpa using this
      rw [List.lookup_cons, ne]
      exact look_mem (List.nodup_cons.mp hn).2 h
theorem drop_zip' {α β : Type} : ∀ (n : Nat) (l : List α) (r : List β), (l.zip r).drop n = (l.drop n).zip (r.drop n)
  | 0, _, _ => rfl
  | n + 1, [], r => by simp
  | n + 1, a :: l, [] => by simp
  | n + 1, a :: l, b :: r => by simpa using drop_zip' n l r
theorem take_zip' {α β : Type} : ∀ (n : Nat) (l : List α) (r : List β), (l.zip r).take n = (l.take n).zip (r.take n)
  | 0, _, _ => by simp
  | n + 1, [], r => by simp
  | n + 1, a :: l, [] => by simp
  | n + 1, a :: l, b :: r => by simpa using take_zip' n l r
theorem zip_cut {α β : Type} : ∀ (l : List α) (r : List β), l.zip r = (l.take r.length).zip r
  | [], _ => by simp
  | a :: l, [] => by simp
  | a :: l, b :: r => by simpa using zip_cut l r
/-- the bound parameters, plainly -/
theorem bound_list {ps : List Str} {us D : List Value} (nd : ps.Nodup) (h1 : us.length ≤ ps.length) (h2 : D.length ≤ ps.length) (h3 : ps.length ≤ us.length + D.length) :
    ps.filterMap (fun n => ((((ps.drop (ps.length - D.length)).zip D).foldl dstep (ps.zip us)).lookup n).map fun v => (n, v)) = ps.zip (us ++ D.drop (D.length - (ps.length - us.length))) := by
  have hsp : (ps.drop (ps.length - D.length)).zip D = ((ps.drop (ps.length - D.length)).zip D).take (D.length - (ps.length - us.length)) ++ ((ps.drop (ps.length - D.length)).zip D).drop (D.length - (ps.length - us.length)) := (List.take_append_drop _ _).symm
  have ea : ps.length - D.length + (D.length - (ps.length - us.length)) = us.length := by omega
  have hd : ((ps.drop (ps.length - D.length)).zip D).drop (D.length - (ps.length - us.length)) = (ps.drop us.length).zip (D.drop (D.length - (ps.length - us.length))) := by
    rw [drop_zip', List.drop_drop, ea]
  have fz : (ps.zip us).map (·.1) = ps.take us.length := zip_fst ps us
  have key : ((ps.drop (ps.length - D.length)).zip D).foldl dstep (ps.zip us) = ps.zip us ++ (ps.drop us.length).zip (D.drop (D.length - (ps.length - us.length))) := by
    have k1 : (((ps.drop (ps.length - D.length)).zip D).take (D.length - (ps.length - us.length))).foldl dstep (ps.zip us) = ps.zip us := fold_in _ _ fun p hp => by
      rw [fz]
      rw [take_zip'] at hp
      have m1 : p.1 ∈ (((ps.drop (ps.length - D.length)).take (D.length - (ps.length - us.length))).zip (D.take (D.length - (ps.length - us.length)))).map (·.1) := List.mem_map_of_mem hp
      rw [zip_fst] at m1
      have m2 := List.mem_of_mem_take m1
      rw [List.take_drop, ea] at m2
      exact List.mem_of_mem_drop m2
    have k2 : ((ps.drop us.length).zip (D.drop (D.length - (ps.length - us.length)))).foldl dstep (ps.zip us) = ps.zip us ++ (ps.drop us.length).zip (D.drop (D.length - (ps.length - us.length))) := fold_out _ _ (by
      rw [zip_fst]
      exact (nd.sublist (List.drop_sublist _ _)).sublist (List.take_sublist _ _)) fun p hp => by
        have m1 : p.1 ∈ ((ps.drop us.length).zip (D.drop (D.length - (ps.length - us.length)))).map (·.1) := List.mem_map_of_mem hp
        rw [zip_fst] at m1
        have m2 := List.mem_of_mem_take m1
        rw [fz]
        intro m3
        have nd2 : (ps.take us.length ++ ps.drop us.length).Nodup := by rw [List.take_append_drop]; exact nd
        exact (List.nodup_append.mp nd2).2.2 _ m3 _ m2 rfl
    rw [hsp, List.foldl_append, k1, hd, k2]
  have hz : ps.zip us ++ (ps.drop us.length).zip (D.drop (D.length - (ps.length - us.length))) = ps.zip (us ++ D.drop (D.length - (ps.length - us.length))) := by
    have : ps = ps.take us.length ++ ps.drop us.length := (List.take_append_drop _ _).symm
    conv => rhs; rw [this, List.zip_append (by rw [List.length_take]; omega)]
    rw [← zip_cut, List.take_append_drop]
  have hf : (ps.zip (us ++ D.drop (D.length - (ps.length - us.length)))).map (·.1) = ps := by
    rw [zip_fst, List.take_of_length_le]
    rw [List.length_append, List.length_drop]; omega
  rw [key, hz]
  have q := filt_self (ps.zip (us ++ D.drop (D.length - (ps.length - us.length)))) (ps.zip (us ++ D.drop (D.length - (ps.length - us.length)))) (by rw [hf]; exact nd) fun p hp => look_mem (by rw [hf]; exact nd) hp
  rw [hf] at q
  exact q
theorem bind_gen {nm qual : Str} {as : List Arg} {bd : List Stmt} {sc : Scope} {kV doc pm cv ct : Value} {an : Option Addr} {dE : List Expr} {kd : List (Option Expr)} {dV : Value} {us : List Value} (nd : (as.map (·.arg)).Nodup) (hl : us.length ≤ as.length) :
    ∃ k, bindArgs (PySem.W.fnOf nm qual ⟨[], as, none, [], kd, none, dE⟩ bd sc dV kV doc pm an cv ct) ⟨us, []⟩ = seqItems? dV >>= k ∧
      ∀ r : Option (Array Value), (r.getD #[]).toList.length ≤ as.length → as.length ≤ us.length + (r.getD #[]).toList.length → k r = pure ((as.map (·.arg)).zip (us ++ (r.getD #[]).toList.drop ((r.getD #[]).toList.length - (as.length - us.length)))) := by
  unfold bindArgs
  simp only [PySem.W.fnOf, List.map_nil, List.nil_append, List.forIn_nil, List.append_nil, pure_bind, List.length_map]
  refine ⟨_, rfl, fun r h2 h3 => ?_⟩
  obtain ⟨D, hD⟩ : ∃ D, (r.getD #[]).toList = D := ⟨_, rfl⟩
  rw [hD] at h2 h3
  have e1 : (decide (us.length > as.length) && Option.isNone (none : Option Arg)) = false := by simp; omega
  have e2 : D.drop (D.length - as.length) = D := by rw [Nat.sub_eq_zero_of_le h2]; rfl
  have e3 : ((List.take (as.length - D.length) (as.map (·.arg))).filter fun n => (List.lookup n ((as.map (·.arg)).zip us)).isNone) = [] := by
    rw [List.filter_eq_nil_iff]
    intro x hx
    rw [Bool.not_eq_true, ← Bool.not_eq_true, look_none, zip_fst, Classical.not_not]
    have : List.take (as.length - D.length) (as.map (·.arg)) = List.take (as.length - D.length) (List.take us.length (as.map (·.arg))) := by
      rw [List.take_take]; congr 1; omega
    rw [this] at hx
    exact List.mem_of_mem_take hx
  simp only [hD]
  rw [e1]
  simp only [Bool.false_eq_true, if_false]
  rw [e2, e3]
  simp only [List.isEmpty_nil, Bool.not_true, Bool.false_eq_true, if_false]
  have e4 := bound_list (us := us) (D := D) nd (by rw [List.length_map]; exact hl) (by rw [List.length_map]; exact h2) (by rw [List.length_map]; exact h3)
  rw [List.length_map] at e4
  rw [← e4]
  have e5 := forIn_step ((List.drop (as.length - D.length) (as.map (·.arg))).zip D) ((as.map (·.arg)).zip us)
  rw [e5, pure_bind]
theorem nodup_params {as : List Arg} {N : List Str} {sc : Scope} (S : FnScope N (as.map (·.arg)) sc) : (as.map (·.arg)).Nodup := by rw [← S.pre]; exact S.nd.sublist (List.take_sublist _ _)
/-- the last defaults fill up -/
theorem binds_gen {K : PySem.W.Frag} {nm qual : Str} {as : List Arg} {bd : List Stmt} {sc : Scope} {kV doc pm cv ct : Value} {an : Option Addr} {dE : List Expr} {kd : List (Option Expr)} {dV : Value} {dvs : List V} (nd : (as.map (·.arg)).Nodup) (hD : DflV K dV dvs) (hl : dvs.length ≤ as.length) (j : Nat) (hj : j ≤ dvs.length) :
    ∃ ds, Binds K (PySem.W.fnOf nm qual ⟨[], as, none, [], kd, none, dE⟩ bd sc dV kV doc pm an cv ct) (as.map (·.arg)) ds ∧ Vals (dvs.drop j) ds := by
  rcases hD with ⟨rfl, rfl⟩ | ⟨_, A, o, its, n, rfl, lT, oT, rT⟩
  · refine ⟨[], ?_, by simp; exact .nil⟩
    intro s us X hlen
    rw [List.append_nil] at hlen ⊢
    rw [List.length_map] at hlen
    obtain ⟨k, e1, e2⟩ := bind_gen (nm := nm) (qual := qual) (bd := bd) (sc := sc) (kV := kV) (doc := doc) (pm := pm) (cv := cv) (ct := ct) (an := an) (dE := dE) (kd := kd) (dV := .none) (us := us) nd (by omega)
    refine .of_eq ?_
    rw [e1]
    show k none = _
    rw [e2 none (by simp) (by simp; omega)]
    simp
  · refine ⟨its.drop j, ?_, rT.drop j⟩
    intro s us X hlen
    have l1 : its.length = dvs.length := rT.length.symm
    rw [List.length_append, List.length_drop, List.length_map] at hlen
    obtain ⟨k, e1, e2⟩ := bind_gen (nm := nm) (qual := qual) (bd := bd) (sc := sc) (kV := kV) (doc := doc) (pm := pm) (cv := cv) (ct := ct) (an := an) (dE := dE) (kd := kd) (dV := .ref A) (us := us) nd (by omega)
    refine BindsTo.of_looks fun M => ?_
    rw [e1]
    refine looks_items X lT oT (PySem.W.Looks.of_pure ?_)
    rw [e2 (some its.toArray) (by simp; omega) (by simp; omega)]
    simp only [Option.getD_some, List.toList_toArray]
    have : its.length - (as.length - us.length) = j := by omega
    rw [this]
end MP
end

section
set_option maxHeartbeats 4000000
/-! MPSup: an own exception that keeps its argument: __init__ is super().__init__() and self.f = x, or self.f = x alone. -/
namespace MP
open PySem PySem.Spec PyProof.Rows L2

def parOk (a : Arguments) (ps : List Str) : Bool := a.posonlyargs.isEmpty && a.vararg.isNone && a.kwonlyargs.isEmpty && a.kwarg.isNone && decide (a.args.map (·.arg) = ps)
def asgB (st : Stmt) (s x f : Str) : Bool := match st with
  | .Assign [.Attribute (.Name n1 _) f1 _] (.Name n2 _) _ => decide (n1 = s) && decide (f1 = f) && decide (n2 = x)
  | _ => false
def supB (st : Stmt) : Bool := match st with
  | .Expr (.Call (.Attribute (.Call (.Name n0 _) [] [] _) a0 ap) [] [] cp) _ => decide (n0 = ("super" : Str)) && decide (a0 = ("__init__" : Str)) && (ap.endLine == cp.line)
  | _ => false
def locB (sc : Scope) (s x : Str) : Bool := decide (sc.names.lookup s = some .local) && decide (sc.names.lookup x = some .local) && (sc.names.all fun y => decide (y.2 ≠ .cell)) && !sc.isCoroutine && !sc.isGenerator && decide (sc.kind = .function)
def fileB (K : PySem.W.Frag) (cda : Addr) (file : Str) : Bool := match K.lookup cda with
  | some ⟨_, _, .fields vs, _⟩ => match (vs[2]? : Option Value) with
    | some (.str z _) => decide (z = file)
    | _ => false
  | _ => false
def cellB (K : PySem.W.Frag) (cc : Addr) (C : Addr) : Bool := match K.lookup cc with
  | some ⟨_, _, .cell (some (.ref D)), _⟩ => (PySem.W.clsIn K D).isSome && decide (PySem.W.mroIn K C (.ref D) = some true) && decide (PySem.W.ks_superIn K C D "__init__" = some (some (.builtin "ValueError.__init__")))
  | _ => false
/-- the two bodies -/
def bodyB (K : PySem.W.Frag) (C : Addr) (f file : Str) (sc : Scope) (cl : List (Str × Addr)) (code : Value) (s x : Str) (bd : List Stmt) : Bool := match bd with
  | [s1, s2] => (match cl, code with
    | [(q, cc)], .ref cda => decide (q = ("__class__" : Str)) && supB s1 && asgB s2 s x f && fileB K cda file && cellB K cc C && decide (sc.names.lookup ("super" : Str) = some .globalImplicit) && decide (sc.names.lookup ("__class__" : Str) = some .free) && decide (PySem.W.nsIn K mainGlobals "super" = some none) && decide (PySem.W.nsIn K cStatics "thirdparty.any" = some none) && decide (PySem.W.subIn K (.ref C) (.type "ValueError") = some true)
    | _, _ => false)
  | [s2] => asgB s2 s x f
  | _ => false
def initB (K : PySem.W.Frag) (C : Addr) (f file : Str) (d : FuncData) : Bool := match d.params.args with
  | [a1, a2] => match d.body with
    | .stmts bd => parOk d.params [a1.arg, a2.arg] && !decide (a1.arg = a2.arg) && okName a1.arg && okName a2.arg && decide (d.globals = mainGlobals) && decide (d.builtins = builtinsNs) && PySem.W.codeIn K d.code d.qualname && decide (d.defaults = .none) && locB d.scope a1.arg a2.arg && bodyB K C f file d.scope d.closure d.code a1.arg a2.arg bd
    | _ => false
  | _ => false
def oexB (K : PySem.W.Frag) (C : Addr) : Bool := match K.lookup C with
  | some ⟨.type t, _, .cls cd, sl⟩ => decide (t = "type") && (match cd.mro, sl.toList with
    | .ref C' :: bm, [_, _, _, _, some (.builtin n), _] => decide (C' = C) && decide (n = "ValueError.__new__") && !cd.hasDel && cd.hasDict && PySem.HandSPX.refsVE bm
    | _, _ => false)
  | _ => false
def keepB (K : PySem.W.Frag) (C : Addr) (f file : Str) : Bool := oexB K C && decide (PySem.W.findIn K (.ref C) "__setattr__" = some (some (.builtin "object.__setattr__"))) && decide (PySem.W.subIn K (.ref C) (.type "BaseException") = some true) && decide (PySem.W.typeIn K (.ref C) = some (.type "type")) && PySem.W.keepIn K (.ref C) && decide (PySem.W.findIn K (.ref C) f = some none) &&
  (match PySem.W.findIn K (.ref C) "__init__" with
    | some (some (.ref fI)) => decide (PySem.W.typeIn K (.ref fI) = some (.type "function")) && (match K.lookup fI with
      | some ⟨_, _, .func d, _⟩ => initB K C f file d
      | _ => false)
    | _ => false)

/-! ### what it says -/
structure InitC (K : PySem.W.Frag) (C : Addr) (f file : Str) (d : FuncData) (s x : Str) (bd : List Stmt) : Prop where
  body : d.body = .stmts bd
  bind : ∀ a b : Value, bindArgs d ⟨[a, b], []⟩ = pure [(s, a), (x, b)]
  ne : s ≠ x
  hd : ∃ ar : Arg, (d.params.posonlyargs ++ d.params.args).head? = some ar ∧ ar.arg = s
  os : okName s = true
  ox : okName x = true
  gl : d.globals = mainGlobals
  bl : d.builtins = builtinsNs
  cd : PySem.W.codeIn K d.code d.qualname = true
  ls : d.scope.names.lookup s = some .local
  lx : d.scope.names.lookup x = some .local
  nc : ∀ y ∈ d.scope.names, y.2 ≠ .cell
  co : d.scope.isCoroutine = false
  ge : d.scope.isGenerator = false
  kn : d.scope.kind = .function
  bo : bodyB K C f file d.scope d.closure d.code s x bd = true
structure KeepC (K : PySem.W.Frag) (C : Addr) (f file : Str) : Prop where
  o : OexC K C
  no : PySem.W.findIn K (.ref C) f = some none
  ini : ∃ fI oc od sl d s x bd, PySem.W.findIn K (.ref C) "__init__" = some (some (.ref fI)) ∧ PySem.W.typeIn K (.ref fI) = some (.type "function") ∧ K.lookup fI = some ⟨oc, od, .func d, sl⟩ ∧ InitC K C f file d s x bd
theorem oexB_ok {K : PySem.W.Frag} {C : Addr} (e : oexB K C = true) : ∃ nm q N bs bm sn sub ab col dd k0 k1 k2 k3 k5, K.lookup C = some (excClassObj nm q C N bs bm true sn sub ab col dd k0 k1 k2 k3 k5 "ValueError.__new__") ∧ PySem.HandSPX.refsVE bm = true := by
  unfold oexB at e
  split at e
  · rename_i t dd cd sl ho
    simp only [Bool.and_eq_true, decide_eq_true_eq] at e
    obtain ⟨rfl, e⟩ := e
    split at e
    · rename_i C' bm k0 k1 k2 k3 n k5 hm hs
      simp only [Bool.and_eq_true, decide_eq_true_eq, Bool.not_eq_true'] at e
      obtain ⟨⟨⟨⟨rfl, rfl⟩, hdel⟩, hdct⟩, hr⟩ := e
      obtain ⟨nm, bs, mro, ns, qn, hd, sn, sub, ab, col, del⟩ := cd
      dsimp only at hm hdel hdct
      subst hm hdel hdct
      have hsl : sl = #[k0, k1, k2, k3, some (.builtin "ValueError.__new__"), k5] := by
        obtain ⟨l⟩ := sl
        simp only at hs
        rw [hs]
      subst hsl
      exact ⟨nm, qn, ns, bs, bm, sn, sub, ab, col, dd, k0, k1, k2, k3, k5, ho, hr⟩
    · cases e
  · cases e
theorem locB_ok {sc : Scope} {s x : Str} (e : locB sc s x = true) : sc.names.lookup s = some .local ∧ sc.names.lookup x = some .local ∧ (∀ y ∈ sc.names, y.2 ≠ .cell) ∧ sc.isCoroutine = false ∧ sc.isGenerator = false ∧ sc.kind = .function := by
  unfold locB at e
  simp only [Bool.and_eq_true, decide_eq_true_eq, Bool.not_eq_true', List.all_eq_true] at e
  obtain ⟨⟨⟨⟨⟨h1, h2⟩, h3⟩, h4⟩, h5⟩, h6⟩ := e
  exact ⟨h1, h2, h3, h4, h5, h6⟩
theorem initB_ok {K : PySem.W.Frag} {C : Addr} {f file : Str} {d : FuncData} (e : initB K C f file d = true) : ∃ s x bd, InitC K C f file d s x bd := by
  obtain ⟨n1, n2, n3, n4, n5, n6, n7, n8, n9, n10, n11, n12, n13, n14, n15⟩ := d
  obtain ⟨a1, a2, a3, a4, a5, a6, a7⟩ := n3
  unfold initB at e
  dsimp only at e
  split at e
  · rename_i b1 b2
    cases n4 with
    | stmts bd =>
      simp only [Bool.and_eq_true, decide_eq_true_eq, Bool.not_eq_true', decide_eq_false_iff_not] at e
      obtain ⟨⟨⟨⟨⟨⟨⟨⟨⟨p, ne⟩, o1⟩, o2⟩, g⟩, bl⟩, cd⟩, df⟩, lo⟩, bo⟩ := e
      unfold parOk at p
      simp only [Bool.and_eq_true] at p
      obtain ⟨⟨⟨⟨p1, p2⟩, p3⟩, p4⟩, p5⟩ := p
      have p1' : a1 = [] := by simpa using p1
      have p2' : a3 = none := by simpa using p2
      have p3' : a4 = [] := by simpa using p3
      have p4' : a6 = none := by simpa using p4
      subst p1' p2' p3' p4'
      obtain ⟨l1, l2, l3, l4, l5, l6⟩ := locB_ok lo
      refine ⟨b1.arg, b2.arg, bd, rfl, fun a b => ?_, ne, ⟨b1, rfl, rfl⟩, o1, o2, g, bl, cd, l1, l2, l3, l4, l5, l6, bo⟩
      have nd : ([b1, b2].map (·.arg)).Nodup := by simpa using ne
      obtain ⟨k, e1, e2⟩ := bind_gen (nm := n1) (qual := n2) (bd := bd) (sc := n5) (kV := n9) (doc := n10) (pm := n11) (cv := n13) (ct := n14) (an := n12) (dE := a7) (kd := a5) (dV := .none) (us := [a, b]) nd (by simp)
      have e3 : seqItems? Value.none = pure none := rfl
      have e4 := e2 none (by simp) (by simp)
      rw [e3, pure_bind, e4] at e1
      subst df
      exact e1
    | _ => cases e
  · cases e
theorem keepB_ok {K : PySem.W.Frag} {C : Addr} {f file : Str} (e : keepB K C f file = true) : KeepC K C f file := by
  unfold keepB at e
  simp only [Bool.and_eq_true, decide_eq_true_eq] at e
  obtain ⟨⟨⟨⟨⟨⟨e1, e2⟩, e3⟩, e4⟩, e5⟩, e6⟩, e7⟩ := e
  refine ⟨⟨oexB_ok e1, e2, e3, e4, e5⟩, e6, ?_⟩
  split at e7
  · rename_i fI hfI
    simp only [Bool.and_eq_true, decide_eq_true_eq] at e7
    obtain ⟨t1, e7⟩ := e7
    split at e7
    · rename_i oc od d sl ho
      obtain ⟨s, x, bd, hi⟩ := initB_ok e7
      exact ⟨fI, oc, od, sl, d, s, x, bd, hfI, t1, ho, hi⟩
    · cases e7
  · cases e7

/-! ### the walk -/
section
variable {P : Program} {w : World} {A : Around} {K : PySem.W.Frag} {C fI e : Addr} {f file s x : Str} {d : FuncData} {bd : List Stmt} {g : Array GenState} {dr : Drawn} {os : OsState} {u : Value}
/-- the exception has the field -/
def Kept (h : Heap) (e C : Addr) (f : Str) (u : Value) (h' : Heap) : Prop := ∃ dx t1, (∀ b o, b ≠ e → h.get? b = some o → h'.get? b = some o) ∧ h.objs.size ≤ dx ∧ dx ≠ e ∧ h'.get? e = some ({ cls := .ref C, dict := some dx, data := .fields #[.ref t1, .none, .none, .none, .bool false, .none] } : Obj) ∧ h'.Ns1 dx (fun y => if y = f then some u else none)
theorem Kept.of {h h1 h' : Heap} (k : ∀ b o, b ≠ e → h.get? b = some o → h1.get? b = some o) (hs : h.objs.size ≤ h1.objs.size) (q : Kept h1 e C f u h') : Kept h e C f u h' := by
  obtain ⟨dx, t1, a, b, c, d, r⟩ := q
  exact ⟨dx, t1, fun b o hb z => a b o hb (k b o hb z), Nat.le_trans hs b, c, d, r⟩
theorem asg_run {h : Heap} {t : Nat} {env : Env} {m : Str → Option Value} {t0 : Addr} {st : Stmt} {E : Value → Shared → Prop} {Q : Flow → Shared → Prop} (T : OexC K C) (no : PySem.W.findIn K (.ref C) f = some none) (X : K.In h) (hk : env.scope.kind = .function)
    (ls : env.kindOf s = some .local) (lx : env.kindOf x = some .local) (os' : okName s = true) (ox : okName x = true) (hn : h.Ns env.locals m) (ms : m s = some (.ref e)) (mx : m x = some u) (he : h.get? e = some (PySem.HandSPX.excO C t0)) (hst : asgB st s x f = true)
    (hq : ∀ h' tk, Kept h e C f u h' → Q .next ⟨h', g, dr, tk, os⟩) : wpAny (model P w) A (exec st env) Q E ⟨h, g, dr, t, os⟩ := by
  unfold asgB at hst
  split at hst
  · rename_i n1 p1 f1 p2 n2 p3 p4
    simp only [Bool.and_eq_true, decide_eq_true_eq] at hst
    obtain ⟨⟨rfl, rfl⟩, rfl⟩ := hst
    refine plainObj_wpAny_Assign_Attribute ?_ rfl
    refine wpAny_Name (wpAny_loadName_local hk lx hn mx ?_) (okName_of ox).1
    refine wpAny_Name (wpAny_loadName_local hk ls hn ms ?_) (okName_of os').1
    obtain ⟨nm, q, N, bs, bm, sn, sub, ab, col, dd, k0, k1, k2, k3, k5, hC, hbm⟩ := T.cls
    have hcl : PySem.W.clsIn K C = some { name := nm, bases := bs, mro := .ref C :: bm, ns := N, qualname := q, hasDict := true, slotNames := sn, subclasses := sub, abstract := ab, collection := col, hasDel := false } := by unfold PySem.W.clsIn; rw [hC] <;> rfl
    refine PySem.W.set_plain X (ox := PySem.HandSPX.excO C t0) (od := none) ⟨he, rfl, rfl, trivial⟩ T.sa ?_
    refine PySem.HandSPX.exc_osa X he hcl (show PySem.HandSPX.refsVE (.ref C :: bm) = true from hbm) rfl no (fun h' tk' dx k dn dne hx hn => ?_)
    exact hq h' tk' ⟨dx, t0, k, dn, dne, hx, hn⟩
  · cases hst
theorem boot_super : bootBuiltins "super" = some (.type "super") := by kernel_rfl
/-- super().__init__() called -/
theorem mw_call {h : Heap} {t : Nat} {t0 u' : Addr} {E : Value → Shared → Prop} {Q : Value → Shared → Prop} (T : OexC K C) (X : K.In h) (hu : h.get? u' = some (PySem.W.kxs_mw "ValueError.__init__" e)) (he : h.get? e = some (PySem.HandSPX.excO C t0))
    (hq : ∀ h' t1, (∀ b o, b ≠ e → h.get? b = some o → h'.get? b = some o) → h.objs.size ≤ h'.objs.size → h'.get? e = some (PySem.HandSPX.excO C t1) → Q .none ⟨h', g, dr, t, os⟩) :
    wpAny (model P w) A (call (.ref u') []) Q E ⟨h, g, dr, t, os⟩ := by
  obtain ⟨nm, q, N, bs, bm, sn, sub, ab, col, dd, k0, k1, k2, k3, k5, hC, hbm⟩ := T.cls
  refine wpAny_call (codeAny_of_tree ?_)
  show wpAny _ A.in1 (callAny (.ref u') ⟨[], []⟩) _ _ _
  simp only [callAny]
  refine wpAny_bind (wpAny_load hu ?_)
  simp only [PySem.W.kxs_mw, show (Value.type "method-wrapper" == Value.type "method" || Value.type "method-wrapper" == Value.type "builtin_function_or_method" || Value.type "method-wrapper" == Value.type "method-wrapper") = true by decide, if_true]
  refine PySem.W.KFB.if_so (by decide) ?_
  refine wpAny_bind (PySem.W.check_bound_init F.excBase_ValueError.toExcCallFacts (X _ _ hC) he rfl ?_)
  refine wpAny_bind (wpAny_pure (wpAny_pure ?_))
  refine ⟨plainId_quiet F.excBase_ValueError.init.plain _, codeAny_builtin F.excBase_ValueError.initEntry ?_⟩
  rw [Around.under_plainId F.excBase_ValueError.init.plain _]
  refine PySem.W.exc_init_tree (cls := .ref C) (t0 := t0) (dv := none) (c2 := .none) (c3 := .none) (b4 := .bool false) he (by simp) fun h' k e' t' => ?_
  refine hq h' _ k ?_ e'
  exact Nat.le_of_lt (Heap.lt_size t')
theorem sup_form {b : Expr} {m : Str} {ap pos : Pos} {env : Env} (hl : (ap.endLine == pos.line) = true) :
    eval (.Call (.Attribute b m ap) [] [] pos) env = (do
      let ov ← attributeBase b m env (eval b env)
      standAt ap.atName
      let (f, first) ← holding [ov] (getMethod ov m (do return (← importBound b env).getD true))
      callWith pos f first (backTo pos (starEach [] env)) []) := by
  show (do
    let ov ← attributeBase b m env (eval b env)
    standAt ap.atName
    methodCall b m ap pos env ov (([] : List Expr).length + ([] : List Keyword).length) (backTo pos (starEach [] env)) (backToKw pos (keywordEach [] env))) = _
  have f := few_of (L := ⟨[], [], [], [], []⟩) (N := []) (sc := env.scope) (es := .nil) (as := []) (pos := pos) (env := env) rfl (by simp)
  unfold methodCall
  rw [f]
  have e1 : methodCallPos true b env ap pos = pure pos := by
    unfold methodCallPos
    simp [hl]
  rw [e1]
  simp only [calleeOf, if_true, pure_bind]
  rfl
theorem sup_run {R : Result → Shared → Prop} {h : Heap} {t : Nat} {mg mb : Str → Option Value} {oc : Value} {od : Option Addr} {sl : Array (Option Value)} {t0 : Addr} (T : OexC K C) (no : PySem.W.findIn K (.ref C) f = some none) (N : InitC K C f file d s x bd)
    (hf : K.lookup fI = some ⟨oc, od, .func d, sl⟩) (hfile : ((P.main.file : Str) == file) = true) (htop : (P.main.scope.names.lookup ("super" : Str)).isSome = false) (X : K.In h) (hns : h.Ns mainGlobals mg) (hb : h.Ns builtinsNs mb) (hbb : ∀ x : Str, x ≠ "__name__" → mb x = bootBuiltins x)
    (hlim : h.NoLimit) (hdp : A.depth < recursionLimit) (hKe : K.lookup e = none) (he : h.get? e = some (PySem.HandSPX.excO C t0)) (hq : ∀ h' tk, Kept h e C f u h' → R (.ok (.ret .none)) ⟨h', g, dr, tk, os⟩) :
    codeAny (model P w) A (.call (.ref fI) ⟨[.ref e, u], []⟩) R ⟨h, g, dr, t, os⟩ := by
  refine ks_codeAny_call_defAt (fd := d) (body := bd) (binds := [(s, .ref e), (x, u)]) hdp (X _ _ hf) rfl hlim (PySem.W.codeRec_of X N.cd) N.body (.of_eq (N.bind _ _)) N.nc (fun y hy => ?_) (fun h1 hn1 k1 => ?_) N.co N.ge N.kn
  · rcases List.mem_cons.mp hy with rfl | hy
    · exact N.ls
    · have : y = (x, u) := by simpa using hy
      subst this
      exact N.lx
  have X1 : K.In h1 := fun b o z => k1 b o (X b o z)
  have he1 := k1 _ _ he
  have ms : ([(s, Value.ref e), (x, u)].reverse).lookup s = some (.ref e) := by
    show List.lookup s [(x, u), (s, Value.ref e)] = _
    rw [List.lookup_cons, show (s == x) = false by simpa using N.ne, List.lookup_cons]
    simp
  have mx : ([(s, Value.ref e), (x, u)].reverse).lookup x = some u := by
    show List.lookup x [(x, u), (s, Value.ref e)] = _
    rw [List.lookup_cons]
    simp
  have hsz : h.objs.size ≤ h1.objs.size := by
    obtain ⟨o, es, ep, z, _⟩ := hn1
    exact Nat.le_of_lt (Heap.lt_size z)
  have bo := N.bo
  unfold bodyB at bo
  split at bo
  · rename_i s1 s2
    split at bo
    · rename_i q cc cda hcl hcode
      simp only [Bool.and_eq_true, decide_eq_true_eq] at bo
      obtain ⟨⟨⟨⟨⟨⟨⟨⟨⟨rfl, b2⟩, b3⟩, b4⟩, b5⟩, b6⟩, b7⟩, b8⟩, b9⟩, b10⟩ := bo
      unfold supB at b2
      split at b2
      · rename_i n0 p0 p1 a0 ap cp ps
        simp only [Bool.and_eq_true, decide_eq_true_eq] at b2
        obtain ⟨⟨rfl, rfl⟩, hl⟩ := b2
        unfold cellB at b5
        split at b5
        · rename_i c1 c2 D c3 hcell
          simp only [Bool.and_eq_true, decide_eq_true_eq] at b5
          obtain ⟨⟨hD, hsub⟩, hsup⟩ := b5
          obtain ⟨cdD, hD⟩ := Option.isSome_iff_exists.mp hD
          unfold fileB at b4
          split at b4
          · rename_i f1 f2 vs f3 hfl
            split at b4
            · rename_i z tz hz
              have b4 := of_decide_eq_true b4
              subst b4
              obtain ⟨ar, har, hars⟩ := N.hd
              refine ks_wpAt_execs_cons (ks_wpAt_Expr_any ?_ (by simp [interactive, callEnv, newEnv, N.kn]) rfl)
              refine ks_wpAt_MethodCall ?_ (sup_form hl)
              have hcd : ∃ oD, h1.get? D = some oD ∧ oD.data = .cls cdD := by
                unfold PySem.W.clsIn at hD
                split at hD
                · rename_i c d cd' sl ho
                  cases hD
                  exact ⟨_, X1 _ _ ho, rfl⟩
                · cases hD
              obtain ⟨oD, hD1, hD2⟩ := hcd
              have I1 : PySem.W.InstAt h1 e (PySem.HandSPX.excO C t0) C none := ⟨he1, rfl, rfl, trivial⟩
              have hxC : e ≠ C := by
                obtain ⟨nm, q, N, bs, bm, sn, sub, ab, col, dd, k0, k1, k2, k3, k5, hC, hbm⟩ := T.cls
                rintro rfl
                have z := X1 _ _ hC
                rw [he1] at z
                cases z
              refine ks_wpAt_super_base (env := callEnv d h.objs.size fI) b6 b7 (by decide) rfl (X1 _ _ hf) rfl har hcode (X1 _ _ hfl) rfl hz hfile htop ?_
              refine PySem.W.ks_loadName_global (env := callEnv d h.objs.size fI) N.kn b6 (PySem.Calls.loadGlobal_builtin (env := callEnv d h.objs.size fI) (mg := mg) (mb := mb) ?_ (PySem.W.mg_none_of X hns b8) ?_ ((hbb _ (by decide +kernel)).trans boot_super) ⟨rfl, ?_⟩)
              · show h1.Ns d.globals mg
                rw [N.gl]
                exact hns.keeps k1
              · show h1.Ns d.builtins mb
                rw [N.bl]
                exact hb.keeps k1
              refine wpAny_loadName_free (env := callEnv d h.objs.size fI) (c := cc) N.kn b7 (by show d.closure.lookup _ = _; rw [hcl]; rfl) ⟨_, X1 _ _ hcell, rfl⟩ ?_
              rw [hars]
              refine wpAny_loadName_local (env := callEnv d h.objs.size fI) N.kn N.ls hn1 ms ?_
              refine ks_wpAny_isType_cls hD1 hD2 ⟨rfl, ?_⟩
              refine ks_wpAny_call_super hD1 hD2 he1 rfl (fun c z => by cases z) (PySem.W.looks_mroIn X1 hsub) (fun h2 e2 k2 => ?_)
              have X2 : K.In h2 := fun b o z => k2 b o (X1 b o z)
              cases hc : PySem.W.clsIn K C with
              | none => unfold PySem.W.ks_superIn at hsup; rw [hc] at hsup; cases hsup
              | some cd =>
                unfold PySem.W.ks_superIn at hsup
                rw [hc] at hsup
                have he2 := k2 _ _ he1
                have I2 : PySem.W.InstAt h2 e (PySem.HandSPX.excO C t0) C none := ⟨he2, rfl, rfl, trivial⟩
                refine PySem.W.kxs_getMethod PySem.W.kxs_ValueError e2 (PySem.W.looks_opaque X2 b9) (l₀ := cd.mro) (fun A Q E s k q => wpAny_bind ((PySem.W.looks_clsIn X2 hc) A _ E s k (wpAny_pure q))) rfl X2 hsup (I2.type.andThen (PySem.W.looks_subIn X2 b10)) hxC (by decide) ?_
                have k3 : ∀ b o, h2.get? b = some o → (h2.push (PySem.W.kxs_mw "ValueError.__init__" e)).get? b = some o := fun b o z => Heap.get?_push_of_some _ z
                have hu3 : (h2.push (PySem.W.kxs_mw "ValueError.__init__" e)).get? h2.objs.size = some (PySem.W.kxs_mw "ValueError.__init__" e) := Heap.get?_push_at rfl rfl
                refine PySem.W.kxs_callWith (i := "ValueError.__init__") (x := e) rfl (evalArgs_empty ⟨hu3, ?_⟩)
                show wpAny _ _ (call (.ref h2.objs.size) []) _ _ _
                refine mw_call T (fun b o z => k3 b o (X2 b o z)) hu3 (k3 _ _ he2) fun h4 t4 k4 hs4 he4 => ?_
                have n1 : ∀ b, b < h1.objs.size → b ≠ h1.objs.size := fun b z => Nat.ne_of_lt z
                have kk : ∀ b o, b ≠ e → h1.get? b = some o → h4.get? b = some o := fun b o hb z => k4 b o hb (k3 b o (k2 b o z))
                have Le : h.objs.size ≠ e := Nat.ne_of_gt (Heap.lt_size he)
                have hn4 : h4.Ns h.objs.size (fun y => ([(s, Value.ref e), (x, u)].reverse).lookup y) := hn1.at fun o z => kk _ _ Le z
                have hc4 : e ≠ C := hxC
                have X4 : K.In h4 := fun b o z => by
                  have hbe : b ≠ e := fun q => by
                    subst q
                    rw [hKe] at z
                    cases z
                  exact kk b o hbe (X1 b o z)
                show PySem.wpAt _ _ _ (execs [s2] _) _ _ _
                refine ks_wpAt_execs_cons (wpAt_of_wpAny (asg_run (s := s) (x := x) T no X4 N.kn N.ls N.lx N.os N.ox hn4 ms mx he4 b3 fun h' tk q => ?_))
                refine wpAt_of_wpAny (wpAny_pure (hq h' tk (q.of (fun b o hb z => kk b o hb (k1 b o z)) ?_)))
                have s1 : h2.objs.size ≤ (h2.push (PySem.W.kxs_mw "ValueError.__init__" e)).objs.size := Nat.le_of_lt (Heap.lt_size hu3)
                have s0 : h1.objs.size ≤ h2.objs.size := Nat.le_of_lt (Heap.lt_size e2)
                omega
            · cases b4
          · cases b4
        · cases b5
      · cases b2
    · cases bo
  · refine ks_wpAt_execs_cons (wpAt_of_wpAny (asg_run (s := s) (x := x) T no X1 N.kn N.ls N.lx N.os N.ox hn1 ms mx he1 bo fun h' tk q => ?_))
    exact wpAt_of_wpAny (wpAny_pure (hq h' tk (q.of (fun b o _ z => k1 b o z) hsz)))
  · cases bo
end
/-- C(e), C an own exception that keeps its argument -/
theorem supOk_of {P : Program} {K : PySem.W.Frag} {C : Addr} {f file : Str} (hk : KeepC K C f file) (hfile : ((P.main.file : Str) == file) = true) (htop : (P.main.scope.names.lookup ("super" : Str)).isSome = false) : SupOk P K C f := by
  intro X x e te p pos hP hK hcalm hr hm hg hdb hns he
  subst hP hK
  intro pins s σ H Q I h
  have T := hk.o
  obtain ⟨fI, oc, od, sl, d, s', x', bd, iC, tI, lk, N⟩ := hk.ini
  obtain ⟨nm, q, N', bs, bm, sn, sub, ab, col, dd, k0, k1, k2, k3, k5, hC, hbm⟩ := T.cls
  refine wpAny_Call_Name_kw (ld_glob I hg hm ?_ hdb)
  have hst : starEach [e] X.env = (false, eval e X.env) :: starEach [] X.env := by
    cases e <;> first | rfl | cases hns
  refine PySem.W.callWith_K (h₀ := X.base) I.ok.mod.kin T.kC (thn ((pa_cons he pa_nil hst).run pos pins s σ H (fun vs H1 => match vs with | [v] => ∀ d, H1 d = none → Q (.ref C) (some d) (upd H1 d (.xd [(f, v)])) | _ => False) I h) fun us s1 hh => ⟨?_, ?_⟩) hst rfl
  · obtain ⟨vs, H1, I1, _⟩ := hh
    exact I1.kIn
  obtain ⟨vs, H1, I1, r1, hq⟩ := hh
  split at hq
  case h_2 => exact hq.elim
  rename_i v
  obtain ⟨u, rfl, rv⟩ := vals1 r1
  show wpAny _ _ (call (.ref C) [u]) _ _ _
  obtain ⟨hp, g, dr, tk, os⟩ := s1
  have hlt : ∀ {b : Nat} {o : Obj}, hp.get? b = some o → (b : Nat) < hp.objs.size := fun z => Heap.lt_size z
  have kk : ∀ b o, hp.get? b = some o → ((hp.push (PySem.W.kdv_tup [u])).push (PySem.HandSPX.excO C hp.objs.size)).get? b = some o := fun b o e => Heap.get?_push_of_some _ (Heap.get?_push_of_some _ e)
  have hget : ((hp.push (PySem.W.kdv_tup [u])).push (PySem.HandSPX.excO C hp.objs.size)).get? (hp.objs.size + 1) = some (PySem.HandSPX.excO C hp.objs.size) := by heap_get
  obtain ⟨mb, hmb, hbb⟩ := I1.ok.mod.blt
  have hbk : ∀ b o, X.base.get? b = some o → ((hp.push (PySem.W.kdv_tup [u])).push (PySem.HandSPX.excO C hp.objs.size)).get? b = some o := fun b o z => kk b o (I1.bk b o z)
  refine wpAny_call (PySem.HandSPX.call_own F.excBase_ValueError (fun Y => PySem.HandSPX.refsVE_contains Y bm hbm) (I1.kIn _ _ hC) (PySem.W.looks_findIn I1.kIn iC) (fun self => PySem.W.bind_fn I1.kIn self tI) (by show 1 ≤ sizeLine; rw [sizeLine_eq]; omega) ?_)
  refine sup_run (mg := X.mg) (mb := mb) T hk.no N lk hfile htop (fun b o z => kk b o (I1.kIn b o z)) (I1.ok.mod.glob.keeps hbk) (hmb.keeps hbk) hbb (I1.ok.mod.nolimit.keeps hbk) (Room.depth (hr.make C [u] [])) ?_ hget fun h' tk' q => ?_
  · cases z : X.K.lookup (hp.objs.size + 1) with
    | none => rfl
    | some o =>
      have y := hlt (I1.kIn _ _ z)
      omega
  · obtain ⟨dx, t1, k, dn, dne, hx, hn⟩ := q
    obtain ⟨G, g1, g2⟩ := restrict h' fun b => decide (b ≠ hp.objs.size + 1)
    have gk : ∀ b, b ≠ hp.objs.size + 1 → G.get? b = h'.get? b := fun b hb => g1 b (decide_eq_true hb)
    have ge : G.get? (hp.objs.size + 1) = none := g2 _ (by simp)
    have sz : hp.objs.size ≤ ((hp.push (PySem.W.kdv_tup [u])).push (PySem.HandSPX.excO C hp.objs.size)).objs.size := by
      have : (hp.objs.size + 1 : Nat) < _ := Heap.lt_size hget
      omega
    have hd : H1 dx = none := I1.hok.fresh (Nat.le_trans sz dn)
    have kG : ∀ b o, hp.get? b = some o → G.get? b = some o := fun b o z => by
      have := hlt z
      rw [gk b (by omega)]
      exact k b o (Nat.ne_of_lt (Nat.lt_succ_of_lt (hlt z))) (kk b o z)
    have dn : (_ : Nat) ≤ (dx : Nat) := dn
    have hpd : hp.get? dx = none := by
      cases z : hp.get? dx with
      | none => rfl
      | some o =>
        have := hlt z
        omega
    have J : Inv X pins σ (upd H1 dx (.xd [(f, v)])) { (⟨hp, g, dr, tk, os⟩ : Shared) with heap := G, toks := tk' } := I1.laidN (t' := tk') kG hpd hd ⟨_, hn.at fun o y => (gk dx dne).trans y, fun y => by
      show L2.RelO (List.lookup y [(f, v)]) (if y = f then some u else none)
      rw [lookup_put]
      by_cases hy : y = f
      · rw [if_pos hy, if_pos hy]; exact rv
      · rw [if_neg hy, if_neg hy]; exact True.intro⟩
    refine ⟨rfl, hp.objs.size + 1, _, _, ⟨G, g, dr, tk', os⟩, _, .ref C, some dx, rfl, J, fun b o z => ?_, ge, hx, ⟨rfl, rfl⟩, rfl, rfl, ?_, rfl, I1.bare, raises_own T.exC T.tyC, hq dx hd⟩
    · by_cases hb : b = hp.objs.size + 1
      · rw [hb, ge] at z; cases z
      · rw [gk b hb] at z; exact z
    · rw [upd_ne (Ne.symm dne)]
      exact I1.hok.fresh (Nat.le_succ _)
end MP
end

section
set_option maxHeartbeats 4000000
/-! MPHead: what is read off the head of a text, by one look that the kernel takes. -/
namespace MP
open PySem PySem.Spec PyProof.Rows L2

inductive Gv where
  | at_ (a : At)
  | tup (as : List At)
def Gv.w : Gv → W
  | .at_ a => a.w
  | .tup as => .kt (as.map At.w)
structure Fd where
  at_ : Str × Option Str
  ps : List Str
  N : List Str
  dfl : List At
  body : Ss
structure Cd where
  name : Str
  ini : Option Nat
  mts : List (Nat × Nat)
  flds : List Nat
  isa : List (Ty × Bool)
  -- an exception
  plain : Bool
  field : Option Nat
  reads : List Nat
  takes : List (Nat × Bool)
  xisa : List (Ty × Bool)
structure Pd where
  gf : List Fd
  mf : List Fd
  names : List Str
  cls : List Cd
  gvs : List (Str × Gv)
  kds : List (Str × List (Str × At))
  F : Nat
  file : Str
  nd : names.Nodup
def Pd.fns (p : Pd) : List Fd := p.gf ++ p.mf
def Pd.L (p : Pd) : Lx := ⟨p.gf.map (·.at_.1), p.cls.map (·.name), p.names, p.gvs.map (·.1), p.kds.map (·.1)⟩
def Fd.fi (f : Fd) : Fi := ⟨f.ps, f.N, f.dfl.map At.w, f.body⟩
def Pd.T (p : Pd) (K : PySem.W.Frag) : Tb := ⟨K, fun k => match p.cls[k]? with | some c => He.ga K c.name | none => 0, fun i => match p.fns[i]? with | some f => He.fAd K f.at_ | none => 0, fun _ => 0, p.names, p.nd⟩
def tyB : List Ty := [.non, .bl, .int, .str, .lst, .tup, .dic]
def isaB : Ty → Ty → Option Bool
  | .bl, .int => some true
  | .own _, _ => none
  | _, .own _ => none
  | _, .non => none
  | t, u => some (decide (t = u))
def assoc {α β : Type} [DecidableEq α] (l : List (α × β)) (a : α) : Option β := (l.find? fun p => decide (p.1 = a)).map (·.2)
def Pd.isa (p : Pd) : Ty → Ty → Option Bool
  | .own k, u => match p.cls[k]? with
    | some c => assoc c.isa u
    | none => none
  | t, u => isaB t u
def Pd.mt (p : Pd) (fi k : Nat) : Option Nat := match p.cls[k]? with
  | some c => assoc c.mts fi
  | none => none
def Pd.ini (p : Pd) (k : Nat) : Option Nat := match p.cls[k]? with
  | some c => c.ini
  | none => none
def Pd.flds (p : Pd) (k : Nat) : List Nat := match p.cls[k]? with
  | some c => c.flds
  | none => []
def Pd.xn (p : Pd) : Xn where
  plain := fun k => match p.cls[k]? with
    | some c => c.plain
    | none => false
  field := fun k => match p.cls[k]? with
    | some c => c.field
    | none => none
  takes := fun k j => match p.cls[k]? with
    | some c => assoc c.takes j
    | none => none
  isa := fun k t => match p.cls[k]? with
    | some c => assoc c.xisa t
    | none => none
  reads := fun k => match p.cls[k]? with
    | some c => c.reads
    | none => []
def Pd.tx (p : Pd) : Tx := ⟨p.fns.map Fd.fi, ⟨p.isa, p.flds⟩, p.mt, p.ini, p.gvs.map (·.2.w), p.xn, p.F, p.kds.map (·.2)⟩

/-! ### the look -/
def Fd.ok (L : Lx) (K : PySem.W.Frag) (f : Fd) : Bool := PySem.W.keepIn K (.ref (He.fAd K f.at_)) && (match K.lookup (He.fAd K f.at_) with
  | some ⟨_, _, .func d, _⟩ => decide (d.globals = mainGlobals) && d.closure.isEmpty && decide (d.builtins = builtinsNs) && PySem.W.codeIn K d.code d.qualname && C8.scC f.N f.ps d.scope && parOk d.params f.ps && He.dflB K d.defaults (f.dfl.map At.v) && decide (f.dfl.length ≤ f.ps.length) && (match d.body with
    | .stmts bd => chSs L f.N d.scope f.body bd
    | _ => false)
  | _ => false)
def clsBits (K : PySem.W.Frag) (C : Addr) : Bool := PySem.W.plainGet K C Str.empty && PySem.W.hasDictIn K C && PySem.W.plainOver K C && decide (PySem.W.findIn K (.ref C) "__setattr__" = some (some (.builtin "object.__setattr__")))
def insBits (K : PySem.W.Frag) (C : Addr) : Bool := decide (PySem.W.findIn K (.ref C) "__class__" = some (some (.builtin "object.__class__"))) && decide (PySem.W.specialIn K (.builtin "object.__class__") "__get__" = some (some (.builtin "getset_descriptor.__get__"))) && decide (PySem.W.takesIn K (.builtin "object.__class__") = some true) && decide (PySem.W.mroIn K C (.type "object") = some true)
def excBits (K : PySem.W.Frag) (C : Addr) : Bool := decide (PySem.W.findIn K (.ref C) "__getattribute__" = some (some (.builtin "BaseException.__getattribute__"))) && decide (PySem.W.findIn K (.ref C) "__getattr__" = some none) && decide (PySem.W.subIn K (.ref C) (.type "BaseException") = some true) && PySem.W.hasDictIn K C
def nmAt (p : Pd) (f : Nat) : Str := (p.names[f]?).getD ""
def Cd.ok (p : Pd) (K : PySem.W.Frag) (C : Addr) (c : Cd) : Bool :=
  decide (PySem.W.nsIn K mainGlobals c.name = some (some (.ref C))) &&
  (match c.ini with
    | some i => PySem.W.makesIn K C && decide (PySem.W.findIn K (.ref C) "__init__" = some (some (.ref ((p.T K).fa i)))) && PySem.W.isFn K (.ref ((p.T K).fa i)) && PySem.W.keepIn K (.ref C)
    | none => true) &&
  ((c.mts.isEmpty && c.flds.isEmpty && c.isa.isEmpty) || clsBits K C) &&
  (c.isa.isEmpty || insBits K C) &&
  (c.mts.all fun e => decide (PySem.W.findIn K (.ref C) (nmAt p e.1) = some (some (.ref ((p.T K).fa e.2)))) && PySem.W.isFn K (.ref ((p.T K).fa e.2)) && PySem.W.keepIn K (.ref ((p.T K).fa e.2)) && PySem.W.fnIn K ((p.T K).fa e.2)) &&
  (c.flds.all fun f => decide (PySem.W.findIn K (.ref C) (nmAt p f) = some none)) &&
  (c.isa.all fun e => decide (PySem.W.kitOne K (.ref C) (e.1.val (p.T K)) = some e.2)) &&
  (!c.plain || (PySem.W.excIn K C veBm "ValueError.__new__" && PySem.W.keepIn K (.ref C) && decide (PySem.W.subIn K (.ref C) (.type "BaseException") = some true) && decide (PySem.W.typeIn K (.ref C) = some (.type "type")))) &&
  ((c.reads.isEmpty && c.xisa.isEmpty) || excBits K C) &&
  (c.reads.all fun f => decide (PySem.W.findIn K (.ref C) (nmAt p f) = some none)) &&
  (c.takes.all fun e => decide (PySem.W.exmOne K (.ref C) (.ref ((p.T K).ca e.1)) = some e.2)) &&
  (c.xisa.isEmpty || insBits K C) &&
  (c.xisa.all fun e => decide (PySem.W.kitOne K (.ref C) (tyX (p.T K) e.1) = some e.2))
def Gv.ok (K : PySem.W.Frag) (x : Str) : Gv → Bool
  | .at_ a => match PySem.W.nsIn K mainGlobals x with
    | some (some u) => He.relB a.v u
    | _ => false
  | .tup as => decide (PySem.W.nsIn K mainGlobals x = some (some (.ref (He.ga K x)))) && (match K.lookup (He.ga K x) with
    | some ⟨.type c, _, .seq its _, _⟩ => decide (c = "tuple") && decide (its.size ≤ sizeLine) && He.relAll (as.map At.v) its.toList
    | _ => false)
/-- no list of the text is told: the script is none of them -/
def noLists (K : PySem.W.Frag) : PySem.W.Frag := K.filter fun e => !(e.2.cls == .type "list")
def Pd.ok (p : Pd) (K : PySem.W.Frag) : Bool :=
  (K.all fun e => !(e.2.cls == .type "list")) && (p.fns.all fun f => f.ok p.L K) &&
  (p.gf.all fun f => f.at_.2.isNone && decide (PySem.W.nsIn K mainGlobals f.at_.1 = some (some (.ref (He.ga K f.at_.1))))) &&
  (p.cls.all fun c => c.ok p K (He.ga K c.name)) &&
  (p.gvs.all fun e => e.2.ok K e.1) &&
  (p.kds.all fun e => decide (PySem.W.nsIn K mainGlobals e.1 = some (some (.ref (He.ga K e.1)))) && kdB K (He.ga K e.1) e.2) &&
  (p.cls.all fun c => match c.field with
    | some f => keepB K (He.ga K c.name) (nmAt p f) p.file && decide (f < p.names.length)
    | none => true) &&
  (bltNames.all fun x => decide (PySem.W.nsIn K mainGlobals x = some none)) &&
  (tyB.all fun t => tyB.all fun u => match isaB t u with
    | some b => decide (PySem.W.kitOne K (t.val (p.T K)) (u.val (p.T K)) = some b)
    | none => true)
theorem mem_look {a : Addr} {o : Obj} : ∀ {K : List (Addr × Obj)}, K.lookup a = some o → (a, o) ∈ K
  | [], h => by simp at h
  | (b, u) :: K, h => by
    cases q : a == b with
    | true =>
      rw [List.lookup_cons, q] at h
      have e : a = b := by simpa using q
      cases h
      rw [e]
      exact List.mem_cons_self
    | false =>
      rw [List.lookup_cons, q] at h
      exact List.mem_cons_of_mem _ (mem_look h)
theorem frG_look {g : Addr → Option Obj} {a : Addr} {o : Obj} : ∀ {as : List Addr}, a ∈ as → g a = some o → (He.frG g as).lookup a = some o
  | [], h, _ => by simp at h
  | b :: as, h, e => by
    unfold He.frG
    by_cases hb : a = b
    · subst hb
      rw [List.filterMap_cons, e]
      show List.lookup a ((a, o) :: _) = _
      simp [List.lookup_cons]
    · have ih := frG_look (as := as) (by simpa [hb] using h) e
      cases hq : g b with
      | none => rw [List.filterMap_cons, hq]; exact ih
      | some u =>
        rw [List.filterMap_cons, hq]
        show List.lookup a ((b, u) :: _) = _
        rw [List.lookup_cons, show (a == b) = false by simpa using hb]
        exact ih
theorem noLists_in {g : Addr → Option Obj} {as : List Addr} {h : Heap} (hK : (He.frG g as).In h) : (noLists (He.frG g as)).In h := by
  intro a o e
  have m : (a, o) ∈ noLists (He.frG g as) := mem_look e
  have m2 : (a, o) ∈ He.frG g as := (List.mem_filter.mp m).1
  unfold He.frG at m2
  obtain ⟨b, hb, e2⟩ := List.mem_filterMap.mp m2
  obtain ⟨u, e3, e4⟩ := Option.map_eq_some_iff.mp e2
  cases e4
  refine hK a o ?_
  exact frG_look hb e3
abbrev AlP : Type := Bool × List (Option (List (Option (Str × Int))))
def Pd.obs (p : Pd) (K : PySem.W.Frag) : AlP := (p.ok K, p.kds.map fun e => He.dicW K (He.ga K e.1))
def Pd.val (p : Pd) (w : World) : AlP := (true, p.kds.map fun e => some (He.keysIn w.params (e.2.map (·.1))))
def obsP (n : Nat) (p : Pd) (g : Addr → Option Obj) : AlP := p.obs (noLists (He.frG g (cStatics :: He.asD g n)))
def hookP (n : Nat) (p : Pd) : PySem.W.Hook where
  α := AlP
  obs := fun s => obsP n p s.heap.get?
  val := fun w => p.val w
  says := fun w h => ∃ K : PySem.W.Frag, K.In h ∧ p.obs K = p.val w
  of := fun _ _ e => ⟨_, noLists_in He.frG_in, e⟩
  keeps := fun _ _ _ ⟨K, hK, c⟩ k => ⟨K, PySem.W.Frag.In.keeps hK k, c⟩
theorem obsP_eq {n : Nat} {p : Pd} {g : Addr → Option Obj} {s : Shared} (h : ∀ a, g a = s.heap.get? a) : obsP n p g = (hookP n p).obs s := by
  have e : g = s.heap.get? := funext h
  rw [e]; rfl

/-! ### what it says -/
section
variable {p : Pd} {K : PySem.W.Frag} {h : Heap} {mg : Str → Option Value}
theorem assoc_mem {α β : Type} [DecidableEq α] {l : List (α × β)} {a : α} {b : β} (e : assoc l a = some b) : (a, b) ∈ l := by
  unfold assoc at e
  obtain ⟨q, h1, h2⟩ := Option.map_eq_some_iff.mp e
  have h3 := List.find?_some h1
  have h4 : q.1 = a := of_decide_eq_true h3
  have := List.mem_of_find?_eq_some h1
  obtain ⟨q1, q2⟩ := q
  cases h4
  cases h2
  exact this
structure PdF (p : Pd) (K : PySem.W.Frag) : Prop where
  nol : ∀ (a : Addr) (o : Obj), K.lookup a = some o → o.cls ≠ .type "list"
  fns : ∀ f ∈ p.fns, f.ok p.L K = true
  gf : ∀ f ∈ p.gf, f.at_.2 = none ∧ PySem.W.nsIn K mainGlobals f.at_.1 = some (some (.ref (He.ga K f.at_.1)))
  cls : ∀ c ∈ p.cls, c.ok p K (He.ga K c.name) = true
  gvs : ∀ e ∈ p.gvs, e.2.ok K e.1 = true
  kds : ∀ e ∈ p.kds, PySem.W.nsIn K mainGlobals e.1 = some (some (.ref (He.ga K e.1))) ∧ kdB K (He.ga K e.1) e.2 = true
  xfl : ∀ c ∈ p.cls, ∀ f, c.field = some f → keepB K (He.ga K c.name) (nmAt p f) p.file = true ∧ f < p.names.length
  blt : ∀ x ∈ bltNames, PySem.W.nsIn K mainGlobals x = some none
  tys : ∀ t ∈ tyB, ∀ u ∈ tyB, ∀ b, isaB t u = some b → PySem.W.kitOne K (t.val (p.T K)) (u.val (p.T K)) = some b
theorem Pd.facts (e : p.ok K = true) : PdF p K := by
  unfold Pd.ok at e
  simp only [Bool.and_eq_true, List.all_eq_true] at e
  obtain ⟨⟨⟨⟨⟨⟨⟨⟨h0, h1⟩, h2⟩, h3⟩, h4⟩, h4'⟩, hx⟩, h5⟩, h6⟩ := e
  refine ⟨fun a o e z => by
    have q := h0 _ (mem_look e)
    simp [z] at q, h1, fun f hf => ⟨by simpa using (h2 f hf).1, of_decide_eq_true (h2 f hf).2⟩, h3, h4, fun e he => ⟨of_decide_eq_true (h4' e he).1, (h4' e he).2⟩, fun c hc f hf => by
    have q := hx c hc
    rw [hf] at q
    simp only [Bool.and_eq_true, decide_eq_true_eq] at q
    exact q, fun x hx => of_decide_eq_true (h5 x hx), fun t ht u hu b hb => ?_⟩
  have := h6 t ht u hu
  rw [hb] at this
  exact of_decide_eq_true this
theorem ff_of (F : PdF p K) : Ff (p.T K) p.L p.tx := by
  refine ⟨fun i fi hi => ?_⟩
  have hi : (p.fns.map Fd.fi)[i]? = some fi := hi
  rw [List.getElem?_map] at hi
  obtain ⟨f, hf, e⟩ := Option.map_eq_some_iff.mp hi
  subst e
  have hfa : (p.T K).fa i = He.fAd K f.at_ := by
    show (match p.fns[i]? with | some f => He.fAd K f.at_ | none => 0) = _
    rw [hf]
  have ok := F.fns f (List.mem_of_getElem? hf)
  unfold Fd.ok at ok
  rw [Bool.and_eq_true] at ok
  obtain ⟨_, ok⟩ := ok
  rw [hfa]
  show ∃ oc od nm qual pr bd sc dV kV doc pm cv ct an osl, K.lookup (He.fAd K f.at_) = _ ∧ _
  cases q : K.lookup (He.fAd K f.at_) with
  | none => rw [q] at ok; cases ok
  | some o =>
    obtain ⟨oc, od, dt, osl⟩ := o
    rw [q] at ok
    cases dt with
    | func d =>
      obtain ⟨n1, n2, n3, n4, n5, n6, n7, n8, n9, n10, n11, n12, n13, n14, n15⟩ := d
      simp only [Bool.and_eq_true] at ok
      obtain ⟨⟨⟨⟨⟨⟨⟨⟨k1, k2⟩, k3⟩, k4⟩, k5⟩, k6⟩, k7⟩, k8⟩, k9⟩ := ok
      cases n4 with
      | stmts bd =>
        have e1 := of_decide_eq_true k1
        have e3 := of_decide_eq_true k3
        have e2 : n7 = [] := by simpa using k2
        subst e1 e2 e3
        obtain ⟨a1, a2, a3, a4, a5, a6, a7⟩ := n3
        unfold parOk at k6
        simp only [Bool.and_eq_true] at k6
        obtain ⟨⟨⟨⟨p1, p2⟩, p3⟩, p4⟩, p5⟩ := k6
        have p1' : a1 = [] := by simpa using p1
        have p2' : a3 = none := by simpa using p2
        have p3' : a4 = [] := by simpa using p3
        have p4' : a6 = none := by simpa using p4
        have p5' := of_decide_eq_true p5
        subst p1' p2' p3' p4'
        have S := C8.fnScope_by k5
        refine ⟨oc, od, n1, n2, ⟨[], a2, none, [], a5, none, a7⟩, bd, n5, n8, n9, n10, n11, n13, n14, n12, osl, rfl, k4, S, k9, fun j hj => ?_⟩
        have hl := of_decide_eq_true k8
        have hj' : j ≤ (f.dfl.map At.v).length := by rw [List.length_map]; have : (f.dfl.map At.w).length = f.dfl.length := List.length_map _; exact this ▸ hj
        have pl : f.ps.length = a2.length := by rw [← p5', List.length_map]
        have S2 : FnScope f.N (a2.map (·.arg)) n5 := by rw [p5']; exact S
        obtain ⟨ds, b1, b2⟩ := binds_gen (K := K) (nm := n1) (qual := n2) (bd := bd) (sc := n5) (kV := n9) (doc := n10) (pm := n11) (cv := n13) (ct := n14) (an := n12) (dE := a7) (kd := a5) (nodup_params S2) (He.dflB_ok k7) (by rw [List.length_map]; omega) j hj'
        rw [p5'] at b1
        refine ⟨ds, _, b1, b2, fun c => ?_⟩
        show RelWs _ c ((f.dfl.map At.w).drop j) _
        rw [← List.map_drop, ← List.map_drop]
        exact At.rels _
      | _ => cases k9
    | _ => cases ok
theorem clsBits_ok {C : Addr} (e : clsBits K C = true) : Cls K C := by
  unfold clsBits at e
  simp only [Bool.and_eq_true, decide_eq_true_eq] at e
  obtain ⟨⟨⟨e1, e2⟩, e3⟩, e4⟩ := e
  exact ⟨e1, e2, e3, e4⟩
theorem at_cls {k : Nat} {c : Cd} (h : p.cls[k]? = some c) : (p.T K).ca k = He.ga K c.name := by
  show (match p.cls[k]? with | some c => He.ga K c.name | none => 0) = _
  rw [h]
/-- the parts of a class's look -/
theorem Cd.parts {C : Addr} {c : Cd} (e : c.ok p K C = true) :
    PySem.W.nsIn K mainGlobals c.name = some (some (.ref C)) ∧
    (∀ i, c.ini = some i → PySem.W.makesIn K C = true ∧ PySem.W.findIn K (.ref C) "__init__" = some (some (.ref ((p.T K).fa i))) ∧ PySem.W.isFn K (.ref ((p.T K).fa i)) = true ∧ PySem.W.keepIn K (.ref C) = true) ∧
    ((c.mts.isEmpty && c.flds.isEmpty && c.isa.isEmpty) = true ∨ Cls K C) ∧ (c.isa = [] ∨ insBits K C = true) ∧
    (∀ e ∈ c.mts, PySem.W.findIn K (.ref C) (nmAt p e.1) = some (some (.ref ((p.T K).fa e.2))) ∧ PySem.W.isFn K (.ref ((p.T K).fa e.2)) = true ∧ PySem.W.keepIn K (.ref ((p.T K).fa e.2)) = true ∧ PySem.W.fnIn K ((p.T K).fa e.2) = true) ∧
    (∀ f ∈ c.flds, PySem.W.findIn K (.ref C) (nmAt p f) = some none) ∧ (∀ e ∈ c.isa, PySem.W.kitOne K (.ref C) (e.1.val (p.T K)) = some e.2) ∧
    (c.plain = true → PySem.W.excIn K C veBm "ValueError.__new__" = true ∧ PySem.W.keepIn K (.ref C) = true ∧ PySem.W.subIn K (.ref C) (.type "BaseException") = some true ∧ PySem.W.typeIn K (.ref C) = some (.type "type")) ∧
    ((c.reads = [] ∧ c.xisa = []) ∨ excBits K C = true) ∧ (∀ f ∈ c.reads, PySem.W.findIn K (.ref C) (nmAt p f) = some none) ∧
    (∀ e ∈ c.takes, PySem.W.exmOne K (.ref C) (.ref ((p.T K).ca e.1)) = some e.2) ∧ (c.xisa = [] ∨ insBits K C = true) ∧ (∀ e ∈ c.xisa, PySem.W.kitOne K (.ref C) (tyX (p.T K) e.1) = some e.2) := by
  unfold Cd.ok at e
  simp only [Bool.and_eq_true, List.all_eq_true, decide_eq_true_eq, Bool.or_eq_true, Bool.not_eq_true', List.isEmpty_iff] at e
  obtain ⟨⟨⟨⟨⟨⟨⟨⟨⟨⟨⟨⟨e1, e2⟩, e3⟩, e4⟩, e5⟩, e6⟩, e7⟩, e8⟩, e9⟩, e10⟩, e11⟩, e12⟩, e13⟩ := e
  refine ⟨e1, fun i hi => ?_, ?_, e4, fun x hx => ?_, e6, e7, fun hp => ?_, e9, e10, e11, e12, e13⟩
  · rw [hi] at e2
    simp only [Bool.and_eq_true, decide_eq_true_eq] at e2
    exact ⟨e2.1.1.1, e2.1.1.2, e2.1.2, e2.2⟩
  · rcases e3 with e3 | e3
    · left; simp [e3]
    · exact .inr (clsBits_ok e3)
  · have := e5 x hx
    exact ⟨this.1.1.1, this.1.1.2, this.1.2, this.2⟩
  · rcases e8 with e8 | e8
    · rw [hp] at e8; cases e8
    · exact ⟨e8.1.1.1, e8.1.1.2, e8.1.2, e8.2⟩
end
end MP
end

section
set_option maxHeartbeats 4000000
/-! MPFact: the look's facts in the form that the trees lean on. -/
namespace MP
open PySem PySem.Spec PyProof.Rows L2
section
variable {p : Pd} {K : PySem.W.Frag} {h : Heap} {mg : Str → Option Value}
theorem cls_at {k : Nat} {c : Cd} (F : PdF p K) (hk : p.cls[k]? = some c) : c.ok p K ((p.T K).ca k) = true := by
  rw [at_cls hk]; exact F.cls c (List.mem_of_getElem? hk)
theorem nm_at {f : Nat} {m : Str} (e : p.names[f]? = some m) : nmAt p f = m := by unfold nmAt; rw [e]; rfl
theorem ty_mem (t : Ty) : (∃ k, t = .own k) ∨ t ∈ tyB := by cases t <;> simp [tyB]
theorem isaB_own {t u : Ty} {b : Bool} (h : isaB t u = some b) : (∀ k, t ≠ .own k) ∧ ∀ k, u ≠ .own k := by
  constructor <;> intro k e <;> subst e
  · simp [isaB] at h
  · cases t <;> simp [isaB] at h
theorem lf_of (X : K.In h) (G : h.Ns mainGlobals mg) (F : PdF p K) (c0 c1 : Nat → List W → M → Res W) : Lf (p.T K) mg p.L (p.tx.cl c0 c1) where
  names := rfl
  fn := fun i x hx => by
    have hx : (p.gf.map (·.at_.1))[i]? = some x := hx
    rw [List.getElem?_map] at hx
    obtain ⟨f, hf, e⟩ := Option.map_eq_some_iff.mp hx
    subst e
    obtain ⟨q1, q2⟩ := F.gf f (List.mem_of_getElem? hf)
    have hi : p.fns[i]? = some f := by
      show (p.gf ++ p.mf)[i]? = _
      rw [List.getElem?_append_left (List.getElem?_eq_some_iff.mp hf).1]; exact hf
    have hfa : (p.T K).fa i = He.fAd K f.at_ := by
      show (match p.fns[i]? with | some f => He.fAd K f.at_ | none => 0) = _
      rw [hi]
    have hga : He.fAd K f.at_ = He.ga K f.at_.1 := by unfold He.fAd; rw [q1]
    have ok := F.fns f (List.mem_of_getElem? hi)
    unfold Fd.ok at ok
    rw [Bool.and_eq_true] at ok
    exact ⟨by rw [hfa, hga]; exact PySem.W.mg_of X G q2, by rw [hfa]; exact ok.1⟩
  cls := fun k x hx => by
    have hx : (p.cls.map (·.name))[k]? = some x := hx
    rw [List.getElem?_map] at hx
    obtain ⟨c, hc, e⟩ := Option.map_eq_some_iff.mp hx
    subst e
    exact PySem.W.mg_of X G (Cd.parts (cls_at F hc)).1
  gv := fun k x w hx hw => by
    have hx : (p.gvs.map (·.1))[k]? = some x := hx
    have hw : (p.gvs.map (·.2.w))[k]? = some w := hw
    rw [List.getElem?_map] at hx hw
    obtain ⟨e, he, e1⟩ := Option.map_eq_some_iff.mp hx
    rw [he] at hw
    have e2 : e.2.w = w := Option.some.inj hw
    subst e1 e2
    have ok := F.gvs e (List.mem_of_getElem? he)
    obtain ⟨x, g⟩ := e
    cases g with
    | at_ a =>
      simp only [Gv.ok] at ok
      split at ok
      · rename_i u hu
        exact ⟨u, a.v, PySem.W.mg_of X G hu, He.relB_ok ok, fun c => a.rel⟩
      · cases ok
    | tup as =>
      simp only [Gv.ok, Bool.and_eq_true] at ok
      obtain ⟨k1, k2⟩ := ok
      refine ⟨_, .ref (He.ga K x), PySem.W.mg_of X G (of_decide_eq_true k1), rfl, fun c => ?_⟩
      cases q : K.lookup (He.ga K x) with
      | none => rw [q] at k2; cases k2
      | some o =>
        obtain ⟨oc, od, dt, osl⟩ := o
        rw [q] at k2
        cases oc with
        | type cn =>
          cases dt with
          | seq its n =>
            simp only [Bool.and_eq_true, decide_eq_true_eq] at k2
            obtain ⟨⟨z1, z2⟩, z3⟩ := k2
            exact ⟨_, as.map At.v, rfl, .inr ⟨_, its, n, q, congrArg Value.type z1, rfl, z2, He.relAll_ok z3⟩, At.rels as⟩
          | _ => cases k2
        | _ => cases dt <;> cases k2
  blt := fun x hx => PySem.W.mg_none_of X G (F.blt x hx)
  make := fun k i hi => by
    have hi : p.ini k = some i := hi
    unfold Pd.ini at hi
    split at hi
    · rename_i c hc
      obtain ⟨a1, a2, a3, a4⟩ := (Cd.parts (cls_at F hc)).2.1 i hi
      exact ⟨a1, a2, a3, a4⟩
    · cases hi
  mt := fun fi k i m hi hm => by
    have hi : p.mt fi k = some i := hi
    unfold Pd.mt at hi
    split at hi
    · rename_i c hc
      have mem := assoc_mem hi
      obtain ⟨_, _, q3, _, q5, _⟩ := Cd.parts (cls_at F hc)
      obtain ⟨b1, b2, b3, b4⟩ := q5 _ mem
      have e : nmAt p fi = m := nm_at hm
      refine ⟨?_, ⟨e ▸ b1, b2, b3⟩, b4⟩
      rcases q3 with q3 | q3
      · simp only [Bool.and_eq_true, List.isEmpty_iff] at q3
        rw [q3.1.1] at mem; cases mem
      · exact q3
    · cases hi
  cn := by
    refine ⟨fun t u b hb => ?_, fun k f hf => ?_, fun k f x hf hx => ?_, fun t k b hb => ?_⟩
    · have hb : p.isa t u = some b := hb
      rcases ty_mem t with ⟨k, e⟩ | ht
      · subst e
        simp only [Pd.isa] at hb
        split at hb
        · rename_i c hc
          exact (Cd.parts (cls_at F hc)).2.2.2.2.2.2.1 _ (assoc_mem hb)
        · cases hb
      · have hb' : isaB t u = some b := by
          cases t <;> first | exact hb | (simp [tyB] at ht)
        rcases ty_mem u with ⟨k, e⟩ | hu
        · exact absurd e ((isaB_own hb').2 k)
        · exact F.tys t ht u hu b hb'
    · have hf : f ∈ p.flds k := hf
      unfold Pd.flds at hf
      split at hf
      · rename_i c hc
        rcases (Cd.parts (cls_at F hc)).2.2.1 with q3 | q3
        · simp only [Bool.and_eq_true, List.isEmpty_iff] at q3
          rw [q3.1.2] at hf; cases hf
        · exact q3
      · cases hf
    · have hf : f ∈ p.flds k := hf
      unfold Pd.flds at hf
      split at hf
      · rename_i c hc
        have := (Cd.parts (cls_at F hc)).2.2.2.2.2.1 f hf
        rw [nm_at hx] at this
        exact this
      · cases hf
    · have hb : p.isa (.own k) t = some b := hb
      simp only [Pd.isa] at hb
      split at hb
      · rename_i c hc
        have mem := assoc_mem hb
        obtain ⟨_, _, q3, q4, _⟩ := Cd.parts (cls_at F hc)
        rcases q3 with q3 | q3
        · simp only [Bool.and_eq_true, List.isEmpty_iff] at q3
          rw [q3.2] at mem; cases mem
        · rcases q4 with q4 | q4
          · rw [q4] at mem; cases mem
          · unfold insBits at q4
            simp only [Bool.and_eq_true, decide_eq_true_eq] at q4
            exact ⟨q3, q4.1.1.1, q4.1.1.2, q4.1.2, q4.2⟩
      · cases hb
theorem kd_of {w : World} (X : K.In h) (G : h.Ns mainGlobals mg) (F : PdF p K) (e : p.obs K = p.val w) : KdF K w mg p.L p.tx.kds := by
  intro k x tab hx ht
  have hx : (p.kds.map (·.1))[k]? = some x := hx
  have ht : (p.kds.map (·.2))[k]? = some tab := ht
  rw [List.getElem?_map] at hx ht
  obtain ⟨q, hq, e1⟩ := Option.map_eq_some_iff.mp hx
  rw [hq] at ht
  have e2 : q.2 = tab := Option.some.inj ht
  subst e1 e2
  obtain ⟨f1, f2⟩ := F.kds q (List.mem_of_getElem? hq)
  refine ⟨He.ga K q.1, PySem.W.mg_of X G f1, kdB_ok f2 ?_⟩
  have e3 : (p.kds.map fun e => He.dicW K (He.ga K e.1)) = p.kds.map fun e => some (He.keysIn w.params (e.2.map (·.1))) := congrArg (fun z : AlP => z.2) e
  have e4 : (p.kds.map fun e => He.dicW K (He.ga K e.1))[k]? = (p.kds.map fun e => some (He.keysIn w.params (e.2.map (·.1))))[k]? := by rw [e3]
  rw [List.getElem?_map, List.getElem?_map, hq] at e4
  exact He.dicW_ok (Option.some.inj e4)
theorem fld_at {k f : Nat} (h : p.xn.field k = some f) : ∃ c, p.cls[k]? = some c ∧ c.field = some f := by
  have h : (match p.cls[k]? with | some c => c.field | none => none) = some f := h
  split at h
  · rename_i c hc
    exact ⟨c, hc, h⟩
  · cases h
theorem xf_of {P : Program} (F : PdF p K) (hfile : ((P.main.file : Str) == p.file) = true) (htop : (P.main.scope.names.lookup ("super" : Str)).isSome = false) : Xf P (p.T K) p.L p.xn where
  plain := fun k hk => by
    have hk : (match p.cls[k]? with | some c => c.plain | none => false) = true := hk
    split at hk
    · rename_i c hc
      exact (Cd.parts (cls_at F hc)).2.2.2.2.2.2.2.1 hk
    · cases hk
  fld := fun k f nm hf hn => by
    obtain ⟨c, hc, hf⟩ := fld_at hf
    have q := (F.xfl c (List.mem_of_getElem? hc) f hf).1
    rw [at_cls hc]
    have e : nmAt p f = nm := by
      unfold nmAt
      have hn : p.names[f]? = some nm := hn
      rw [hn]; rfl
    rw [e] at q
    exact supOk_of (keepB_ok q) hfile htop
  nmd := fun k f hf => by
    obtain ⟨c, hc, hf⟩ := fld_at hf
    have q := (F.xfl c (List.mem_of_getElem? hc) f hf).2
    exact ⟨_, List.getElem?_eq_getElem q⟩
  takes := fun k j b hb => by
    have hb : (match p.cls[k]? with | some c => assoc c.takes j | none => none) = some b := hb
    split at hb
    · rename_i c hc
      exact (Cd.parts (cls_at F hc)).2.2.2.2.2.2.2.2.2.2.1 _ (assoc_mem hb)
    · cases hb
  isa := fun k t b hb => by
    have hb : (match p.cls[k]? with | some c => assoc c.xisa t | none => none) = some b := hb
    split at hb
    · rename_i c hc
      have mem := assoc_mem hb
      obtain ⟨_, _, _, _, _, _, _, _, q9, _, _, q12, q13⟩ := Cd.parts (cls_at F hc)
      refine ⟨q13 _ mem, ?_⟩
      rcases q9 with ⟨_, q9⟩ | q9
      · rw [q9] at mem; cases mem
      · rcases q12 with q12 | q12
        · rw [q12] at mem; cases mem
        · unfold excBits at q9
          unfold insBits at q12
          simp only [Bool.and_eq_true, decide_eq_true_eq] at q9 q12
          exact ⟨q9.1.1.1, q9.1.1.2, q9.1.2, q9.2, q12.1.1.1, q12.1.1.2, q12.1.2, q12.2⟩
    · cases hb
  reads := fun k f x hf hx => by
    have hf : f ∈ (match p.cls[k]? with | some c => c.reads | none => []) := hf
    split at hf
    · rename_i c hc
      obtain ⟨_, _, _, _, _, _, _, _, q9, q10, _⟩ := Cd.parts (cls_at F hc)
      rcases q9 with ⟨q9, _⟩ | q9
      · rw [q9] at hf; cases hf
      · have z := q10 f hf
        rw [nm_at hx] at z
        unfold excBits at q9
        simp only [Bool.and_eq_true, decide_eq_true_eq] at q9
        exact ⟨⟨q9.1.1.1, q9.1.1.2, q9.1.2, q9.2⟩, z⟩
    · cases hf
end
end MP
end

section
set_option maxHeartbeats 4000000
/-! MPEnd: a law from the small interpreter's answer. -/
namespace MP
open PySem PySem.Spec PyProof.Rows L2

theorem takes_no {P : Program} {w : World} {H : Hp} {s : Shared} {e : Value} {s' : Shared} : L2.CX P w [] H s (fun _ _ _ => False) e s' → False := fun ⟨_, _, _, _, _, _, _, _, _, _, _, _, z⟩ => z
/-- the script as the only thing that is told -/
def scriptH (a : Addr) (vs : List Value) (ns : List Int) : Hp := fun b => if b = a then some (.frz { cls := .type "list", data := .seq vs.toArray } (.lst (ns.map V.int))) else none
theorem scriptH_at {a : Addr} {vs : List Value} {ns : List Int} : scriptH a vs ns a = some (.frz { cls := .type "list", data := .seq vs.toArray } (.lst (ns.map V.int))) := if_pos rfl
theorem scriptH_ne {a b : Addr} {vs : List Value} {ns : List Int} (h : b ≠ a) : scriptH a vs ns b = none := if_neg h
theorem law_run {P : Program} {w : World} {K : PySem.W.Frag} {mg mb : Str → Option Value} {n : Nat} {fa a : Addr} {sp : Sp} {s₁ : Shared} {vs : List Value} {ns : List Int}
    (KX : K.In s₁.heap) (nol : ∀ (a : Addr) (o : Obj), K.lookup a = some o → o.cls ≠ .type "list") (hns : s₁.heap.Ns mainGlobals mg) (hb : s₁.heap.Ns builtinsNs mb) (hbb : ∀ x : Str, x ≠ "__name__" → mb x = bootBuiltins x) (hlim : s₁.heap.NoLimit) (hg : s₁.gens = #[])
    (ha : s₁.heap.get? a = some { cls := .type "list", data := .seq vs.toArray }) (hi : IntsAre vs ns) (hl : ns.length ≤ sizeLine) (hr : Room n callerA)
    (F : ∀ base : Heap, K.In base → base.Ns mainGlobals mg → FnG P w K mg base n fa sp) (hsp : sp [.ref a] (scriptH a vs ns) (fun v _ => v = .bl true) fun _ _ _ => False) :
    codeAny (model P w) callerA (.call (.ref fa) ⟨[.ref a], []⟩) (fun r s' => r = .ok (.ret (.bool true)) ∧ OldK s₁.heap s'.heap ∧ s'.os = s₁.os ∧ AllBare s'.gens) s₁ := by
  have rv := vals_ints hi
  have hKa : K.lookup a = none := by
    cases e : K.lookup a with
    | none => rfl
    | some o =>
      have z := KX a o e
      rw [ha] at z
      cases z
      exact absurd rfl (nol a _ e)
  have back : ∀ {b : Addr} {o : Obj}, s₁.heap.get? b = some o → b ≠ a → (hidT s₁.heap (scriptH a vs ns)).get? b = some o := fun e hb => hidT_get e (scriptH_ne hb)
  have nsB : ∀ {b : Addr} {m : Str → Option Value}, s₁.heap.Ns b m → (hidT s₁.heap (scriptH a vs ns)).Ns b m := fun {b m} ⟨o, es, ep, e, d, r⟩ => ⟨o, es, ep, back e (fun z => by
    subst z
    rw [ha] at e
    cases e
    cases d), d, r⟩
  have kinB : K.In (hidT s₁.heap (scriptH a vs ns)) := fun b o e => back (KX b o e) fun z => by rw [z, hKa] at e; cases e
  have md : Mod K mg (hidT s₁.heap (scriptH a vs ns)) := ⟨kinB, nsB hns, ⟨mb, nsB hb, hbb⟩, let ⟨mc, y1, y2⟩ := hlim; ⟨mc, nsB y1, y2⟩⟩
  have hok : HOk P w (scriptH a vs ns) s₁.heap := fun b u z => by
    by_cases hb : b = a
    · subst hb
      rw [scriptH_at] at z
      cases z
      exact ⟨ha, by rw [List.length_map]; exact hl, vs, _, rv, ha⟩
    · rw [scriptH_ne hb] at z; cases z
  have e0 : Env0 P w K mg (hidT s₁.heap (scriptH a vs ns)) callerA [] s₁ (scriptH a vs ns) :=
    ⟨rfl, md, fun b o e => of_hidT e, Nat.le_of_eq (hidT_size _ _), trivial, fun b hb => absurd (show b ∈ ([] : List Addr) from hb) (by simp), hok, .of_eq hg⟩
  refine codeAny_mono ((F _ kinB (nsB hns)).run callerA [] s₁ (scriptH a vs ns) [.ref a] [.ref a] _ _ hr rfl e0 (.cons rfl .nil) hsp) fun r s' h => ?_
  cases r with
  | error e => exact (takes_no h).elim
  | ok fl =>
    cases fl with
    | next => exact h.elim
    | brk => exact h.elim
    | cont => exact h.elim
    | ret u =>
      obtain ⟨v, H', os, bare, un, hok', r', q⟩ := h
      have q : v = .bl true := q
      subst q
      obtain rfl : u = Value.bool true := r'
      refine ⟨rfl, OldK.of_keep fun b o e => ?_, os, bare⟩
      by_cases hb : b = a
      · subst hb
        obtain ⟨e2, _⟩ := hok' b _ (un.frzs b _ _ scriptH_at)
        rw [ha] at e; cases e
        exact e2
      · exact un.keep b o e (scriptH_ne hb) (by intro z; exact absurd (show b ∈ ([] : List Addr) from z) (by simp)) (by simp)
theorem ints_rels {T : Tb} {c : Cf} : ∀ ns : List Int, RelWs T c (ns.map W.int) (ns.map V.int)
  | [] => RelWs.nil
  | _ :: ns => RelWs.cons rfl (ints_rels ns)
/-- a law, from the trees of its text: lw the law's def -/
theorem walk_P {l : PySem.W.OpenLaw} {n d0 i : Nat} {q : Program} {loose : List Str} {XP : (Str → Option Value) → Heap → Prop} {YP : World → Heap → Prop} {d : DefRec} {p : Pd}
    (hn : l.most = some n) (hn2 : n ≤ sizeLine) (hdf : d.params.defaults = []) (hr : Room (d0 + 2) callerA) (hY : ∀ w h, YP w h → ∃ K : PySem.W.Frag, K.In h ∧ p.obs K = p.val w) (hi : p.L.fnm[i]? = some d.name)
    (hfile : ((l.prog.main.file : Str) == p.file) = true) (htop : (l.prog.main.scope.names.lookup ("super" : Str)).isSome = false)
    (H : ∀ ns : List Int, ns.length ≤ n → ∃ m, p.tx.call d0 i [.kl (ns.map W.int)] [] = .ok (.bl true) m) :
    PySem.W.WalkO q loose XP YP l.row.toRowW d [] (fun f vs => PySem.call f vs) := by
  refine Att.attach_call hn hdf fun w s₀ s₁ mg mb fa o pm cd doc a vs ns G Y ho hd hcd hmg hobj hints hlen hg => ?_
  obtain ⟨K, KX, ob⟩ := hY w _ Y
  have ok : p.ok K = true := congrArg (fun z : AlP => z.1) ob
  have F := Pd.facts ok
  have lf := lf_of KX G.T.g F
  have e := hmg.symm.trans ((lf noF noF).fn i d.name hi).1
  cases e
  refine law_run KX F.nol G.T.g G.T.b G.T.builtins G.T.nolimit hg hobj hints (Nat.le_trans hlen hn2) hr (sp := spC (p.T K) (p.tx.call d0 i)) (fun base kb nb => ?_) ?_
  · exact call_ok (T := p.T K) (t := p.tx) (L := p.L) (fun c0 c1 => lf_of kb nb F c0 c1) (xf_of F hfile htop) (ff_of F) (kd_of kb nb F ob) d0 i
  · obtain ⟨m, hm⟩ := H ns hlen
    refine ⟨⟨[], [], scriptH a vs ns, []⟩, [.kl (ns.map W.int)], rfl, ⟨rfl, List.nodup_nil, fun _ h => (by cases h), fun _ h => (by cases h), fun _ h => (by cases h), fun i o a h => (by simp at h)⟩, ?_, ?_⟩
    · exact RelWs.cons ⟨a, ns.map V.int, rfl, ⟨_, scriptH_at⟩, ints_rels ns⟩ RelWs.nil
    · show Wp _ _ _ _ _ (p.tx.call d0 i [.kl (ns.map W.int)] []) _
      rw [hm]
      exact fun ρ H b _ _ hb => hb
end MP
end

section
set_option maxHeartbeats 4000000
/-! MPCut: the look behind the head, in parts: a run of the head for each part. -/
namespace MP
open PySem PySem.Spec PyProof.Rows L2 PySem.Calls

def Pd.rest (p : Pd) (K : PySem.W.Frag) : Bool :=
  (K.all fun e => !(e.2.cls == .type "list")) &&
  (p.gf.all fun f => f.at_.2.isNone && decide (PySem.W.nsIn K mainGlobals f.at_.1 = some (some (.ref (He.ga K f.at_.1))))) &&
  (p.gvs.all fun e => e.2.ok K e.1) &&
  (p.kds.all fun e => decide (PySem.W.nsIn K mainGlobals e.1 = some (some (.ref (He.ga K e.1)))) && kdB K (He.ga K e.1) e.2) &&
  (p.cls.all fun c => match c.field with
    | some f => keepB K (He.ga K c.name) (nmAt p f) p.file && decide (f < p.names.length)
    | none => true) &&
  (bltNames.all fun x => decide (PySem.W.nsIn K mainGlobals x = some none)) &&
  (tyB.all fun t => tyB.all fun u => match isaB t u with
    | some b => decide (PySem.W.kitOne K (t.val (p.T K)) (u.val (p.T K)) = some b)
    | none => true)
theorem all_cut {α : Type} {f : α → Bool} : ∀ {l : List α} {n : Nat}, (l.take n).all f = true → (l.drop n).all f = true → l.all f = true := by
  intro l n h1 h2
  rw [← List.take_append_drop n l, List.all_append, h1, h2]; rfl
theorem Pd.ok_cut {p : Pd} {K : PySem.W.Frag} (h0 : p.rest K = true) (h1 : (p.fns.all fun f => f.ok p.L K) = true) (h2 : (p.cls.all fun c => c.ok p K (He.ga K c.name)) = true) : p.ok K = true := by
  unfold Pd.rest at h0
  unfold Pd.ok
  simp only [Bool.and_eq_true] at h0 ⊢
  obtain ⟨⟨⟨⟨⟨⟨a1, a2⟩, a3⟩, a4⟩, a5⟩, a6⟩, a7⟩ := h0
  exact ⟨⟨⟨⟨⟨⟨⟨⟨a1, h1⟩, a2⟩, h2⟩, a3⟩, a4⟩, a5⟩, a6⟩, a7⟩
/-- what is asked of a def behind the head, its text aside -/
def Fd.okP (K : PySem.W.Frag) (f : Fd) : Bool := PySem.W.keepIn K (.ref (He.fAd K f.at_)) && (match K.lookup (He.fAd K f.at_) with
  | some ⟨_, _, .func d, _⟩ => decide (d.globals = mainGlobals) && d.closure.isEmpty && decide (d.builtins = builtinsNs) && PySem.W.codeIn K d.code d.qualname && parOk d.params f.ps && He.dflB K d.defaults (f.dfl.map At.v) && decide (f.dfl.length ≤ f.ps.length)
  | _ => false)
/-- its text -/
def bodyOf (K : PySem.W.Frag) (f : Fd) : Option (FuncBody × Scope) := match K.lookup (He.fAd K f.at_) with
  | some ⟨_, _, .func d, _⟩ => some (d.body, d.scope)
  | _ => none
def Fd.okA (L : Lx) (f : Fd) (s : List Stmt × Scope) : Bool := C8.scC f.N f.ps s.2 && chSs L f.N s.2 f.body s.1
def srcG (q : Program) (i : Nat) : List Stmt × Scope := match q.main.body[i]? with
  | some (.FunctionDef _ _ b _ _ _ sc _ _ _) => (b, sc)
  | _ => ([], default)
def srcM (q : Program) (i j : Nat) : List Stmt × Scope := match q.main.body[i]? with
  | some (.ClassDef _ _ _ bd _ _ _ _ _ _ _) => match bd[j]? with
    | some (.FunctionDef _ _ b _ _ _ sc _ _ _) => (b, sc)
    | _ => ([], default)
  | _ => ([], default)
abbrev asF (s : List Stmt × Scope) : Option (FuncBody × Scope) := some (.stmts s.1, s.2)
theorem Fd.ok_of {L : Lx} {K : PySem.W.Frag} {f : Fd} {s : List Stmt × Scope} (h1 : f.okP K = true) (h2 : bodyOf K f = asF s) (h3 : f.okA L s = true) : f.ok L K = true := by
  unfold Fd.okP at h1
  unfold bodyOf at h2
  unfold Fd.okA at h3
  unfold Fd.ok
  cases hl : K.lookup (He.fAd K f.at_) with
  | none => rw [hl] at h2; cases h2
  | some o =>
    obtain ⟨oc, od, dt, osl⟩ := o
    rw [hl] at h1 h2
    cases dt with
    | func d =>
      obtain ⟨e1, e2⟩ : d.body = .stmts s.1 ∧ d.scope = s.2 := by
        have := Option.some.inj h2
        exact ⟨congrArg Prod.fst this, congrArg Prod.snd this⟩
      simp only [Bool.and_eq_true] at h1 h3 ⊢
      obtain ⟨h0, ⟨⟨⟨⟨⟨⟨k1, k2⟩, k3⟩, k4⟩, k5⟩, k6⟩, k7⟩⟩ := h1
      rw [e1, e2]
      exact ⟨h0, ⟨⟨⟨⟨⟨⟨⟨⟨k1, k2⟩, k3⟩, k4⟩, h3.1⟩, k5⟩, k6⟩, k7⟩, h3.2⟩⟩
    | _ => cases h2
theorem fns_ok {L : Lx} {K : PySem.W.Frag} : ∀ (fs : List Fd) (ss : List (List Stmt × Scope)), fs.map (bodyOf K) = ss.map asF → (fs.all fun f => f.okP K) = true → ((fs.zip ss).all fun e => e.1.okA L e.2) = true → (fs.all fun f => f.ok L K) = true
  | [], _, _, _, _ => rfl
  | f :: fs, [], h, _, _ => by simp at h
  | f :: fs, s :: ss, h, h1, h2 => by
    rw [List.map_cons, List.map_cons, List.cons.injEq] at h
    rw [List.all_cons, Bool.and_eq_true] at h1
    rw [List.zip_cons_cons, List.all_cons, Bool.and_eq_true] at h2
    rw [List.all_cons, Bool.and_eq_true]
    exact ⟨Fd.ok_of h1.1 h.1 h2.1, fns_ok fs ss h.2 h1.2 h2.2⟩
def Pd.restP (p : Pd) (K : PySem.W.Frag) : Bool := p.rest K && (p.fns.all fun f => f.okP K) && (p.cls.all fun c => c.ok p K (He.ga K c.name))
/-- what is looked at: the objects at these addresses -/
def kOf (as : List Addr) (s : PySem.W.SharedT) : PySem.W.Frag := He.frG (HandSHeadRun.getT s) as
/-- the hook, by given addresses -/
def hookA (as : List Addr) (p : Pd) : PySem.W.Hook where
  α := AlP
  obs := fun s => p.obs (He.frG s.heap.get? as)
  val := fun w => p.val w
  says := fun w h => ∃ K : PySem.W.Frag, K.In h ∧ p.obs K = p.val w
  of := fun _ _ e => ⟨_, He.frG_in, e⟩
  keeps := fun _ _ _ ⟨K, hK, c⟩ k => ⟨K, PySem.W.Frag.In.keeps hK k, c⟩
def obA (as : List Addr) (p : Pd) (s : PySem.W.SharedT) : AlP := p.obs (kOf as s)
theorem obA_eq (as : List Addr) (p : Pd) (s : PySem.W.SharedT) : obA as p s = (hookA as p).obs s.abs := by
  have e : HandSHeadRun.getT s = s.abs.heap.get? := funext (HandSHeadRun.getT_eq s)
  show p.obs (He.frG _ as) = p.obs (He.frG _ as)
  rw [e]
/-- what the head shows, the defs' texts by the program's own -/
def RunR (r : PySem.W.OpenRow) (as : List Addr) (q : Program) (p : Pd) (ss : List (List Stmt × Scope)) (M : Nat) (loose : List Str) (w : World) : Prop :=
  ∀ os : OsState, (HandSHeadRun.endF (HandSHeadRun.stepQ (HandSHeadRun.denQ HandSHeadRun.tabQ) r.prog w) M r.prog w os).map (fun s => (HandSHeadRun.looksF r.prog (PySem.W.boot_heap w.params) s.abs, HandSHeadRun.seenQ q loose (importedModules r.prog.main.body) (fun s => PySem.W.xlAt q [] s && PySem.W.recOk r.toRowW.records s) s.abs, p.restP (kOf as s), p.fns.map (bodyOf (kOf as s)), p.kds.map fun e => He.dicW (kOf as s) (He.ga (kOf as s) e.1))) = some (true, PySem.W.openGood q loose, true, ss.map asF, p.kds.map fun e => some (He.keysIn w.params (e.2.map (·.1))))
theorem RunR.eq {r : PySem.W.OpenRow} {as : List Addr} {q : Program} {p : Pd} {ss : List (List Stmt × Scope)} {M : Nat} {loose : List Str} {w : World} (h : RunR r as q p ss M loose w) (ha : ((p.fns.zip ss).all fun e => e.1.okA p.L e.2) = true) : HandSHeadRun.RunEq r q (hookA as p) (obA as p) M loose w := by
  intro os
  have a := h os
  cases z : HandSHeadRun.endF (HandSHeadRun.stepQ (HandSHeadRun.denQ HandSHeadRun.tabQ) r.prog w) M r.prog w os with
  | none => rw [z] at a; cases a
  | some s =>
    rw [z] at a
    simp only [Option.map_some, Option.some.injEq, Prod.mk.injEq] at a
    obtain ⟨a1, a2, a3, a5, a4⟩ := a
    unfold Pd.restP at a3
    simp only [Bool.and_eq_true] at a3
    have ok := Pd.ok_cut a3.1.1 (fns_ok _ _ a5 a3.1.2 ha) a3.2
    show some (_, _, obA as p s) = some _
    have e : obA as p s = p.val w := by
      show (p.ok (kOf as s), _) = _
      rw [ok]
      exact Prod.ext rfl a4
    rw [a1, a2, e]
    rfl
end MP
end

section
set_option maxHeartbeats 4000000
namespace MPT
open PySem PySem.Spec PyProof.Rows L2 MP
abbrev i_is_integer : Nat := 0
abbrev i_is_name : Nat := 1
abbrev i_is_phrase : Nat := 2
abbrev i_begins_with_word : Nat := 3
abbrev i_is_leaf : Nat := 4
abbrev i_is_collection : Nat := 5
abbrev i_is_expression : Nat := 6
abbrev i_parts : Nat := 7
abbrev i_uses_above : Nat := 8
abbrev i_fits : Nat := 9
abbrev i_is_simple : Nat := 10
abbrev i_is_call : Nat := 11
abbrev i_are_params : Nat := 12
abbrev i_are_methods : Nat := 13
abbrev i_is_try : Nat := 14
abbrev i_is_compound : Nat := 15
abbrev i_is_statement : Nat := 16
abbrev i_inner_blocks : Nat := 17
abbrev i_expressions_of : Nat := 18
abbrev i_is_misplaced : Nat := 19
abbrev i_deep_copy : Nat := 20
abbrev i_within_inner : Nat := 21
abbrev i_inner_kind : Nat := 22
abbrev i_check_block : Nat := 23
abbrev i_codes_at : Nat := 24
abbrev i_params_at : Nat := 25
abbrev i__law_source : Nat := 26
abbrev i__law_draw : Nat := 27
abbrev i__law_inner : Nat := 28
abbrev i__law_rows : Nat := 29
abbrev i__law_same : Nat := 30
abbrev i__law_link : Nat := 31
abbrev i__law_chain : Nat := 32
abbrev i__law_count : Nat := 33
abbrev i__law_first : Nat := 34
abbrev i_law : Nat := 35
abbrev i_Program___init__ : Nat := 36
abbrev i_Program_keep_block : Nat := 37
abbrev i_Program_keep_codes : Nat := 38
abbrev i_Program_block : Nat := 39
abbrev i_Program_codes : Nat := 40
abbrev i_Program_is_path : Nat := 41
abbrev i_Program_checked : Nat := 42
abbrev i_Program_params : Nat := 43
abbrev i_Program___getitem__ : Nat := 44
abbrev i_Program___len__ : Nat := 45
abbrev i_Program___eq__ : Nat := 46
abbrev k_AnswerError : Nat := 0
abbrev k_NoProgram : Nat := 1
abbrev k_NoPath : Nat := 2
abbrev k_Program : Nat := 3
abbrev g_WORDS : Nat := 0
abbrev g_LETTERS : Nat := 1
abbrev g_PHRASE_CHARACTERS : Nat := 2
abbrev g_OPERATORS : Nat := 3
abbrev g_HOWS : Nat := 4
abbrev g_MOST_EXPRESSION_DEPTH : Nat := 5
abbrev g_MOST_BLOCK_DEPTH : Nat := 6
abbrev g_MOST_IN_BLOCK : Nat := 7
abbrev g_MOST_STATEMENTS : Nat := 8
abbrev d_SIMPLE : Nat := 0
abbrev a_path : Nat := 0
abbrev a___len__ : Nat := 1
abbrev a_top : Nat := 2
abbrev a_order : Nat := 3
abbrev a_statements : Nat := 4
abbrev a_owners : Nat := 5
abbrev a_blocks : Nat := 6
abbrev a_parameters : Nat := 7
abbrev a_kinds_of_codes : Nat := 8
abbrev a_keep_block : Nat := 9
abbrev a_written : Nat := 10
abbrev a_keep_codes : Nat := 11
abbrev a_is_path : Nat := 12
abbrev a_checked : Nat := 13
def f_is_integer : Fd := ⟨("is_integer", none), ["thing"], ["thing"], [], (Ss.cons (.ret (.andL (Es.cons (.isa (.var 0) .int) (Es.cons (.not (.isa (.var 0) .bl)) Es.nil)))) Ss.nil)⟩
def f_is_name : Fd := ⟨("is_name", none), ["thing"], ["thing", "sign"], [], (Ss.cons (.ife (B.orL (Bs.cons (B.not (B.val (.isa (.var 0) .str))) (Bs.cons (B.not (B.chn .le .le (.int 1) (.bf .len (Es.cons (.var 0) Es.nil)) (.int 8))) Bs.nil))) (Ss.cons (.ret .ff) Ss.nil) Ss.nil) (Ss.cons (.ret (.andL (Es.cons (.cmp .nmem (.var 0) (.glo g_WORDS)) (Es.cons (.bf .all (Es.cons (.comp true (Ie.val (.var 0)) (.nm 1) [("sign", 1)] Cs.all (.cmp .mem (.var 1) (.glo g_LETTERS))) Es.nil)) Es.nil)))) Ss.nil))⟩
def f_is_phrase : Fd := ⟨("is_phrase", none), ["thing"], ["thing", "sign"], [], (Ss.cons (.ret (.andL (Es.cons (.isa (.var 0) .str) (Es.cons (.cmp .le (.bf .len (Es.cons (.var 0) Es.nil)) (.int 20)) (Es.cons (.bf .all (Es.cons (.comp true (Ie.val (.var 0)) (.nm 1) [("sign", 1)] Cs.all (.cmp .mem (.var 1) (.glo g_PHRASE_CHARACTERS))) Es.nil)) Es.nil))))) Ss.nil)⟩
def f_begins_with_word : Fd := ⟨("begins_with_word", none), ["thing"], ["thing"], [], (Ss.cons (.ret (.andL (Es.cons (.isa (.var 0) .tup) (Es.cons (.cmp .gt (.bf .len (Es.cons (.var 0) Es.nil)) (.int 0)) (Es.cons (.isa (.ix (.var 0) (.int 0)) .str) Es.nil))))) Ss.nil)⟩
def f_is_leaf : Fd := ⟨("is_leaf", none), ["word", "part"], ["word", "part"], [], (Ss.cons (.ife (B.cmp .eq (.var 0) (.str "number")) (Ss.cons (.ret (.andL (Es.cons (.call i_is_integer (Es.cons (.var 1) Es.nil)) (Es.cons (.chn .le .le (.int 0) (.var 1) (.int 999)) Es.nil)))) Ss.nil) Ss.nil) (Ss.cons (.ife (B.cmp .eq (.var 0) (.str "text")) (Ss.cons (.ret (.call i_is_phrase (Es.cons (.var 1) Es.nil))) Ss.nil) Ss.nil) (Ss.cons (.ret (.call i_is_name (Es.cons (.var 1) Es.nil))) Ss.nil)))⟩
def f_is_collection : Fd := ⟨("is_collection", none), ["word", "rows", "room"], ["word", "rows", "room", "row"], [], (Ss.cons (.ife (B.orL (Bs.cons (B.not (B.val (.isa (.var 1) .lst))) (Bs.cons (B.cmp .gt (.bf .len (Es.cons (.var 1) Es.nil)) (.int 4)) Bs.nil))) (Ss.cons (.ret .ff) Ss.nil) Ss.nil) (Ss.cons (.ife (B.cmp .eq (.var 0) (.str "list")) (Ss.cons (.ret (.bf .all (Es.cons (.comp true (Ie.val (.var 1)) (.nm 3) [("row", 3)] Cs.all (.call i_is_expression (Es.cons (.var 3) (Es.cons (.var 2) Es.nil)))) Es.nil))) Ss.nil) Ss.nil) (Ss.cons (.for_ (.nm 3) (Ie.val (.var 1)) (Ss.cons (.ife (B.orL (Bs.cons (B.not (B.val (.isa (.var 3) .tup))) (Bs.cons (B.cmp .ne (.bf .len (Es.cons (.var 3) Es.nil)) (.int 2)) Bs.nil))) (Ss.cons (.ret .ff) Ss.nil) Ss.nil) (Ss.cons (.ife (B.orL (Bs.cons (B.not (B.val (.call i_is_expression (Es.cons (.ix (.var 3) (.int 0)) (Es.cons (.var 2) Es.nil))))) (Bs.cons (B.not (B.val (.call i_is_expression (Es.cons (.ix (.var 3) (.int 1)) (Es.cons (.var 2) Es.nil))))) Bs.nil))) (Ss.cons (.ret .ff) Ss.nil) Ss.nil) Ss.nil))) (Ss.cons (.ret .tt) Ss.nil))))⟩
def f_is_expression : Fd := ⟨("is_expression", none), ["thing", "room"], ["thing", "room", "word"], [(.int 5)], (Ss.cons (.ife (B.orL (Bs.cons (B.cmp .eq (.var 1) (.int 0)) (Bs.cons (B.not (B.val (.call i_begins_with_word (Es.cons (.var 0) Es.nil)))) Bs.nil))) (Ss.cons (.ret .ff) Ss.nil) Ss.nil) (Ss.cons (.asg (.nm 2) (.ix (.var 0) (.int 0))) (Ss.cons (.ife (B.cmp .mem (.var 2) (.tup (Es.cons (.str "none") (Es.cons (.str "yes") (Es.cons (.str "no") Es.nil))))) (Ss.cons (.ret (.cmp .eq (.bf .len (Es.cons (.var 0) Es.nil)) (.int 1))) Ss.nil) Ss.nil) (Ss.cons (.ife (B.cmp .mem (.var 2) (.tup (Es.cons (.str "number") (Es.cons (.str "text") (Es.cons (.str "name") (Es.cons (.str "above") Es.nil)))))) (Ss.cons (.ret (.andL (Es.cons (.cmp .eq (.bf .len (Es.cons (.var 0) Es.nil)) (.int 2)) (Es.cons (.call i_is_leaf (Es.cons (.var 2) (Es.cons (.ix (.var 0) (.int 1)) Es.nil))) Es.nil)))) Ss.nil) Ss.nil) (Ss.cons (.ife (B.cmp .mem (.var 2) (.tup (Es.cons (.str "not") (Es.cons (.str "len") (Es.cons (.str "kind") Es.nil))))) (Ss.cons (.ret (.andL (Es.cons (.cmp .eq (.bf .len (Es.cons (.var 0) Es.nil)) (.int 2)) (Es.cons (.call i_is_expression (Es.cons (.ix (.var 0) (.int 1)) (Es.cons (.bin .sub true (.var 1) (.int 1)) Es.nil))) Es.nil)))) Ss.nil) Ss.nil) (Ss.cons (.ife (B.cmp .mem (.var 2) (.tup (Es.cons (.str "list") (Es.cons (.str "table") Es.nil)))) (Ss.cons (.ret (.andL (Es.cons (.cmp .eq (.bf .len (Es.cons (.var 0) Es.nil)) (.int 2)) (Es.cons (.call i_is_collection (Es.cons (.var 2) (Es.cons (.ix (.var 0) (.int 1)) (Es.cons (.bin .sub true (.var 1) (.int 1)) Es.nil)))) Es.nil)))) Ss.nil) Ss.nil) (Ss.cons (.ife (B.cmp .eq (.var 2) (.str "get")) (Ss.cons (.ret (.andL (Es.cons (.cmp .eq (.bf .len (Es.cons (.var 0) Es.nil)) (.int 3)) (Es.cons (.call i_is_expression (Es.cons (.ix (.var 0) (.int 1)) (Es.cons (.bin .sub true (.var 1) (.int 1)) Es.nil))) (Es.cons (.call i_is_name (Es.cons (.ix (.var 0) (.int 2)) Es.nil)) Es.nil))))) Ss.nil) Ss.nil) (Ss.cons (.ife (B.cmp .eq (.var 2) (.str "at")) (Ss.cons (.ret (.andL (Es.cons (.cmp .eq (.bf .len (Es.cons (.var 0) Es.nil)) (.int 3)) (Es.cons (.call i_is_expression (Es.cons (.ix (.var 0) (.int 1)) (Es.cons (.bin .sub true (.var 1) (.int 1)) Es.nil))) (Es.cons (.call i_is_expression (Es.cons (.ix (.var 0) (.int 2)) (Es.cons (.bin .sub true (.var 1) (.int 1)) Es.nil))) Es.nil))))) Ss.nil) Ss.nil) (Ss.cons (.ife (B.orL (Bs.cons (B.cmp .ne (.var 2) (.str "op")) (Bs.cons (B.cmp .ne (.bf .len (Es.cons (.var 0) Es.nil)) (.int 4)) (Bs.cons (B.not (B.val (.isa (.ix (.var 0) (.int 1)) .str))) (Bs.cons (B.cmp .nmem (.ix (.var 0) (.int 1)) (.glo g_OPERATORS)) Bs.nil))))) (Ss.cons (.ret .ff) Ss.nil) Ss.nil) (Ss.cons (.ret (.andL (Es.cons (.call i_is_expression (Es.cons (.ix (.var 0) (.int 2)) (Es.cons (.bin .sub true (.var 1) (.int 1)) Es.nil))) (Es.cons (.call i_is_expression (Es.cons (.ix (.var 0) (.int 3)) (Es.cons (.bin .sub true (.var 1) (.int 1)) Es.nil))) Es.nil)))) Ss.nil))))))))))⟩
def f_parts : Fd := ⟨("parts", none), ["e"], ["e", "word", "row", "part"], [], (Ss.cons (.asg (.nm 1) (.ix (.var 0) (.int 0))) (Ss.cons (.ife (B.cmp .mem (.var 1) (.tup (Es.cons (.str "not") (Es.cons (.str "len") (Es.cons (.str "kind") (Es.cons (.str "get") Es.nil)))))) (Ss.cons (.ret (.lst true (Es.cons (.ix (.var 0) (.int 1)) Es.nil))) Ss.nil) Ss.nil) (Ss.cons (.ife (B.cmp .eq (.var 1) (.str "at")) (Ss.cons (.ret (.lst true (Es.cons (.ix (.var 0) (.int 1)) (Es.cons (.ix (.var 0) (.int 2)) Es.nil)))) Ss.nil) Ss.nil) (Ss.cons (.ife (B.cmp .eq (.var 1) (.str "op")) (Ss.cons (.ret (.lst true (Es.cons (.ix (.var 0) (.int 2)) (Es.cons (.ix (.var 0) (.int 3)) Es.nil)))) Ss.nil) Ss.nil) (Ss.cons (.ife (B.cmp .eq (.var 1) (.str "list")) (Ss.cons (.ret (.bf (.list true) (Es.cons (.ix (.var 0) (.int 1)) Es.nil))) Ss.nil) Ss.nil) (Ss.cons (.ife (B.cmp .eq (.var 1) (.str "table")) (Ss.cons (.ret (.comp2 true (Ie.val (.ix (.var 0) (.int 1))) (.nm 2) [("row", 2), ("part", 3)] Cs.all (Ie.val (.var 2)) (.nm 3) [3] Cs.all (.var 3))) Ss.nil) Ss.nil) (Ss.cons (.ret (.lst true Es.nil)) Ss.nil)))))))⟩
def f_uses_above : Fd := ⟨("uses_above", none), ["e"], ["e", "part"], [], (Ss.cons (.ife (B.cmp .eq (.ix (.var 0) (.int 0)) (.str "above")) (Ss.cons (.ret .tt) Ss.nil) Ss.nil) (Ss.cons (.ret (.bf .any (Es.cons (.comp true (Ie.val (.call i_parts (Es.cons (.var 0) Es.nil))) (.nm 1) [("part", 1)] Cs.all (.call i_uses_above (Es.cons (.var 1) Es.nil))) Es.nil))) Ss.nil))⟩
def f_fits : Fd := ⟨("fits", none), ["sign", "part"], ["sign", "part"], [], (Ss.cons (.ife (B.cmp .eq (.var 0) (.str "n")) (Ss.cons (.ret (.call i_is_name (Es.cons (.var 1) Es.nil))) Ss.nil) Ss.nil) (Ss.cons (.ife (B.cmp .eq (.var 0) (.str "p")) (Ss.cons (.ret (.call i_is_phrase (Es.cons (.var 1) Es.nil))) Ss.nil) Ss.nil) (Ss.cons (.ret (.call i_is_expression (Es.cons (.var 1) Es.nil))) Ss.nil)))⟩
def f_is_simple : Fd := ⟨("is_simple", none), ["thing"], ["thing", "signs", "index", "sign"], [], (Ss.cons (.asg (.nm 1) (.kget d_SIMPLE (Es.cons (.ix (.var 0) (.int 0)) Es.nil))) (Ss.cons (.ife (B.orL (Bs.cons (B.cmp .is (.var 1) .non) (Bs.cons (B.cmp .ne (.bf .len (Es.cons (.var 0) Es.nil)) (.bin .add true (.int 1) (.bf .len (Es.cons (.var 1) Es.nil)))) Bs.nil))) (Ss.cons (.ret .ff) Ss.nil) Ss.nil) (Ss.cons (.for_ (.tp [2, 3]) (Ie.enm (Es.cons (.var 1) Es.nil)) (Ss.cons (.ife (B.not (B.val (.call i_fits (Es.cons (.var 3) (Es.cons (.ix (.var 0) (.bin .add true (.var 2) (.int 1))) Es.nil))))) (Ss.cons (.ret .ff) Ss.nil) Ss.nil) Ss.nil)) (Ss.cons (.ret .tt) Ss.nil))))⟩
def f_is_call : Fd := ⟨("is_call", none), ["thing"], ["thing", "part"], [], (Ss.cons (.ife (B.orL (Bs.cons (B.cmp .ne (.bf .len (Es.cons (.var 0) Es.nil)) (.int 5)) (Bs.cons (B.not (B.val (.isa (.ix (.var 0) (.int 1)) .str))) (Bs.cons (B.cmp .nmem (.ix (.var 0) (.int 1)) (.glo g_HOWS)) Bs.nil)))) (Ss.cons (.ret .ff) Ss.nil) Ss.nil) (Ss.cons (.ife (B.cmp .mem (.ix (.var 0) (.int 1)) (.tup (Es.cons (.str "let") (Es.cons (.str "set") Es.nil)))) (Ss.cons (.ife (B.not (B.val (.call i_is_name (Es.cons (.ix (.var 0) (.int 2)) Es.nil)))) (Ss.cons (.ret .ff) Ss.nil) Ss.nil) Ss.nil) (Ss.cons (.ife (B.cmp .nis (.ix (.var 0) (.int 2)) .non) (Ss.cons (.ret .ff) Ss.nil) Ss.nil) Ss.nil)) (Ss.cons (.ife (B.orL (Bs.cons (B.not (B.val (.call i_is_expression (Es.cons (.ix (.var 0) (.int 3)) Es.nil)))) (Bs.cons (B.not (B.val (.isa (.ix (.var 0) (.int 4)) .lst))) (Bs.cons (B.cmp .gt (.bf .len (Es.cons (.ix (.var 0) (.int 4)) Es.nil)) (.int 3)) Bs.nil)))) (Ss.cons (.ret .ff) Ss.nil) Ss.nil) (Ss.cons (.ret (.bf .all (Es.cons (.comp true (Ie.val (.ix (.var 0) (.int 4))) (.nm 1) [("part", 1)] Cs.all (.call i_is_expression (Es.cons (.var 1) Es.nil))) Es.nil))) Ss.nil))))⟩
def f_are_params : Fd := ⟨("are_params", none), ["thing"], ["thing", "part"], [], (Ss.cons (.ife (B.orL (Bs.cons (B.not (B.val (.isa (.var 0) .lst))) (Bs.cons (B.cmp .gt (.bf .len (Es.cons (.var 0) Es.nil)) (.int 3)) (Bs.cons (B.not (B.val (.bf .all (Es.cons (.comp true (Ie.val (.var 0)) (.nm 1) [("part", 1)] Cs.all (.call i_is_name (Es.cons (.var 1) Es.nil))) Es.nil)))) Bs.nil)))) (Ss.cons (.ret .ff) Ss.nil) Ss.nil) (Ss.cons (.ret (.cmp .eq (.nset (.var 0)) (.bf .len (Es.cons (.var 0) Es.nil)))) Ss.nil))⟩
def f_are_methods : Fd := ⟨("are_methods", none), ["thing"], ["thing", "names", "method"], [], (Ss.cons (.ife (B.orL (Bs.cons (B.not (B.val (.isa (.var 0) .lst))) (Bs.cons (B.cmp .gt (.bf .len (Es.cons (.var 0) Es.nil)) (.int 4)) Bs.nil))) (Ss.cons (.ret .ff) Ss.nil) Ss.nil) (Ss.cons (.asg (.nm 1) (.lst false Es.nil)) (Ss.cons (.for_ (.nm 2) (Ie.val (.var 0)) (Ss.cons (.ife (B.orL (Bs.cons (B.not (B.val (.isa (.var 2) .tup))) (Bs.cons (B.cmp .ne (.bf .len (Es.cons (.var 2) Es.nil)) (.int 3)) (Bs.cons (B.not (B.val (.call i_is_name (Es.cons (.ix (.var 2) (.int 0)) Es.nil)))) (Bs.cons (B.cmp .mem (.ix (.var 2) (.int 0)) (.var 1)) Bs.nil))))) (Ss.cons (.ret .ff) Ss.nil) Ss.nil) (Ss.cons (.ife (B.orL (Bs.cons (B.not (B.val (.call i_are_params (Es.cons (.ix (.var 2) (.int 1)) Es.nil)))) (Bs.cons (B.cmp .eq (.bf .len (Es.cons (.ix (.var 2) (.int 1)) Es.nil)) (.int 0)) (Bs.cons (B.not (B.val (.isa (.ix (.var 2) (.int 2)) .lst))) Bs.nil)))) (Ss.cons (.ret .ff) Ss.nil) Ss.nil) (Ss.cons (.expr (.bm .append (.var 1) (Es.cons (.ix (.var 2) (.int 0)) Es.nil))) Ss.nil)))) (Ss.cons (.ret .tt) Ss.nil))))⟩
def f_is_try : Fd := ⟨("is_try", none), ["thing"], ["thing", "k"], [], (Ss.cons (.ife (B.orL (Bs.cons (B.cmp .ne (.bf .len (Es.cons (.var 0) Es.nil)) (.int 5)) (Bs.cons (B.not (B.val (.bf .all (Es.cons (.comp true (Ie.val (.tup (Es.cons (.int 1) (Es.cons (.int 3) (Es.cons (.int 4) Es.nil))))) (.nm 1) [("k", 1)] Cs.all (.isa (.ix (.var 0) (.var 1)) .lst)) Es.nil)))) Bs.nil))) (Ss.cons (.ret .ff) Ss.nil) Ss.nil) (Ss.cons (.ife (B.cmp .is (.ix (.var 0) (.int 2)) .non) (Ss.cons (.ret (.andL (Es.cons (.cmp .eq (.bf .len (Es.cons (.ix (.var 0) (.int 3)) Es.nil)) (.int 0)) (Es.cons (.cmp .gt (.bf .len (Es.cons (.ix (.var 0) (.int 4)) Es.nil)) (.int 0)) Es.nil)))) Ss.nil) Ss.nil) (Ss.cons (.ret (.call i_is_name (Es.cons (.ix (.var 0) (.int 2)) Es.nil))) Ss.nil)))⟩
def f_is_compound : Fd := ⟨("is_compound", none), ["thing"], ["thing", "word"], [], (Ss.cons (.asg (.nm 1) (.ix (.var 0) (.int 0))) (Ss.cons (.ife (B.cmp .eq (.var 1) (.str "try")) (Ss.cons (.ret (.call i_is_try (Es.cons (.var 0) Es.nil))) Ss.nil) Ss.nil) (Ss.cons (.ife (B.cmp .ne (.bf .len (Es.cons (.var 0) Es.nil)) (.ix (.lst true (Es.cons (.int 3) (Es.cons (.int 4) Es.nil))) (.bf .int (Es.cons (.cmp .ne (.var 1) (.str "while")) Es.nil)))) (Ss.cons (.ret .ff) Ss.nil) Ss.nil) (Ss.cons (.ife (B.cmp .eq (.var 1) (.str "while")) (Ss.cons (.ret (.andL (Es.cons (.call i_is_expression (Es.cons (.ix (.var 0) (.int 1)) Es.nil)) (Es.cons (.isa (.ix (.var 0) (.int 2)) .lst) Es.nil)))) Ss.nil) Ss.nil) (Ss.cons (.ife (B.cmp .eq (.var 1) (.str "if")) (Ss.cons (.ret (.andL (Es.cons (.call i_is_expression (Es.cons (.ix (.var 0) (.int 1)) Es.nil)) (Es.cons (.isa (.ix (.var 0) (.int 2)) .lst) (Es.cons (.isa (.ix (.var 0) (.int 3)) .lst) Es.nil))))) Ss.nil) Ss.nil) (Ss.cons (.ife (B.not (B.val (.call i_is_name (Es.cons (.ix (.var 0) (.int 1)) Es.nil)))) (Ss.cons (.ret .ff) Ss.nil) Ss.nil) (Ss.cons (.ife (B.cmp .eq (.var 1) (.str "def")) (Ss.cons (.ret (.andL (Es.cons (.call i_are_params (Es.cons (.ix (.var 0) (.int 2)) Es.nil)) (Es.cons (.isa (.ix (.var 0) (.int 3)) .lst) Es.nil)))) Ss.nil) Ss.nil) (Ss.cons (.ret (.andL (Es.cons (.orL (Es.cons (.cmp .is (.ix (.var 0) (.int 2)) .non) (Es.cons (.call i_is_expression (Es.cons (.ix (.var 0) (.int 2)) Es.nil)) Es.nil))) (Es.cons (.call i_are_methods (Es.cons (.ix (.var 0) (.int 3)) Es.nil)) Es.nil)))) Ss.nil))))))))⟩
def f_is_statement : Fd := ⟨("is_statement", none), ["thing"], ["thing"], [], (Ss.cons (.ife (B.not (B.val (.call i_begins_with_word (Es.cons (.var 0) Es.nil)))) (Ss.cons (.ret .ff) Ss.nil) Ss.nil) (Ss.cons (.ife (B.cmp .mem (.ix (.var 0) (.int 0)) (.tup (Es.cons (.str "if") (Es.cons (.str "while") (Es.cons (.str "try") (Es.cons (.str "def") (Es.cons (.str "class") Es.nil))))))) (Ss.cons (.ret (.call i_is_compound (Es.cons (.var 0) Es.nil))) Ss.nil) Ss.nil) (Ss.cons (.ife (B.cmp .eq (.ix (.var 0) (.int 0)) (.str "call")) (Ss.cons (.ret (.call i_is_call (Es.cons (.var 0) Es.nil))) Ss.nil) Ss.nil) (Ss.cons (.ret (.call i_is_simple (Es.cons (.var 0) Es.nil))) Ss.nil))))⟩
def f_inner_blocks : Fd := ⟨("inner_blocks", none), ["statement"], ["statement", "word", "method"], [], (Ss.cons (.asg (.nm 1) (.ix (.var 0) (.int 0))) (Ss.cons (.ife (B.cmp .eq (.var 1) (.str "if")) (Ss.cons (.ret (.lst true (Es.cons (.ix (.var 0) (.int 2)) (Es.cons (.ix (.var 0) (.int 3)) Es.nil)))) Ss.nil) Ss.nil) (Ss.cons (.ife (B.cmp .eq (.var 1) (.str "while")) (Ss.cons (.ret (.lst true (Es.cons (.ix (.var 0) (.int 2)) Es.nil))) Ss.nil) Ss.nil) (Ss.cons (.ife (B.cmp .eq (.var 1) (.str "try")) (Ss.cons (.ret (.lst true (Es.cons (.ix (.var 0) (.int 1)) (Es.cons (.ix (.var 0) (.int 3)) (Es.cons (.ix (.var 0) (.int 4)) Es.nil))))) Ss.nil) Ss.nil) (Ss.cons (.ife (B.cmp .eq (.var 1) (.str "def")) (Ss.cons (.ret (.lst true (Es.cons (.ix (.var 0) (.int 3)) Es.nil))) Ss.nil) Ss.nil) (Ss.cons (.ife (B.cmp .eq (.var 1) (.str "class")) (Ss.cons (.ret (.comp true (Ie.val (.ix (.var 0) (.int 3))) (.nm 2) [("method", 2)] Cs.all (.ix (.var 2) (.int 2)))) Ss.nil) Ss.nil) (Ss.cons (.ret (.lst true Es.nil)) Ss.nil)))))))⟩
def f_expressions_of : Fd := ⟨("expressions_of", none), ["statement"], ["statement", "word", "part", "signs", "index", "sign"], [], (Ss.cons (.asg (.nm 1) (.ix (.var 0) (.int 0))) (Ss.cons (.ife (B.cmp .eq (.var 1) (.str "call")) (Ss.cons (.ret (.bin .add true (.lst true (Es.cons (.ix (.var 0) (.int 3)) Es.nil)) (.bf (.list true) (Es.cons (.ix (.var 0) (.int 4)) Es.nil)))) Ss.nil) Ss.nil) (Ss.cons (.ife (B.cmp .mem (.var 1) (.tup (Es.cons (.str "if") (Es.cons (.str "while") Es.nil)))) (Ss.cons (.ret (.lst true (Es.cons (.ix (.var 0) (.int 1)) Es.nil))) Ss.nil) Ss.nil) (Ss.cons (.ife (B.cmp .eq (.var 1) (.str "class")) (Ss.cons (.ret (.comp true (Ie.val (.lst true (Es.cons (.ix (.var 0) (.int 2)) Es.nil))) (.nm 2) [("part", 2)] (Cs.one (B.cmp .nis (.var 2) .non)) (.var 2))) Ss.nil) Ss.nil) (Ss.cons (.asg (.nm 3) (.kget d_SIMPLE (Es.cons (.var 1) (Es.cons (.str "") Es.nil)))) (Ss.cons (.ret (.comp true (Ie.enm (Es.cons (.var 3) Es.nil)) (.tp [4, 5]) [("index", 4), ("sign", 5)] (Cs.one (B.cmp .eq (.var 5) (.str "e"))) (.ix (.var 0) (.bin .add true (.var 4) (.int 1))))) Ss.nil))))))⟩
def f_is_misplaced : Fd := ⟨("is_misplaced", none), ["statement", "depth", "within", "kind"], ["statement", "depth", "within", "kind", "word", "e"], [], (Ss.cons (.asg (.nm 4) (.ix (.var 0) (.int 0))) (Ss.cons (.ife (B.andL (Bs.cons (B.cmp .eq (.var 4) (.str "leave")) (Bs.cons (B.not (B.val (.var 2))) Bs.nil))) (Ss.cons (.ret .tt) Ss.nil) Ss.nil) (Ss.cons (.ife (B.andL (Bs.cons (B.cmp .eq (.var 3) (.str "top")) (Bs.cons (B.orL (Bs.cons (B.cmp .eq (.var 4) (.str "give")) (Bs.cons (B.andL (Bs.cons (B.cmp .eq (.var 4) (.str "call")) (Bs.cons (B.cmp .eq (.ix (.var 0) (.int 1)) (.str "give")) Bs.nil))) Bs.nil))) Bs.nil))) (Ss.cons (.ret .tt) Ss.nil) Ss.nil) (Ss.cons (.ife (B.andL (Bs.cons (B.cmp .ne (.var 3) (.str "method")) (Bs.cons (B.val (.bf .any (Es.cons (.comp true (Ie.val (.call i_expressions_of (Es.cons (.var 0) Es.nil))) (.nm 5) [("e", 5)] Cs.all (.call i_uses_above (Es.cons (.var 5) Es.nil))) Es.nil))) Bs.nil))) (Ss.cons (.ret .tt) Ss.nil) Ss.nil) (Ss.cons (.ret (.andL (Es.cons (.cmp .ge (.var 1) (.glo g_MOST_BLOCK_DEPTH)) (Es.cons (.cmp .gt (.bf .len (Es.cons (.call i_inner_blocks (Es.cons (.var 0) Es.nil)) Es.nil)) (.int 0)) Es.nil)))) Ss.nil)))))⟩
def f_deep_copy : Fd := ⟨("deep_copy", none), ["thing"], ["thing", "part"], [], (Ss.cons (.ife (B.val (.isa (.var 0) .lst)) (Ss.cons (.ret (.comp true (Ie.val (.var 0)) (.nm 1) [("part", 1)] Cs.all (.call i_deep_copy (Es.cons (.var 1) Es.nil)))) Ss.nil) Ss.nil) (Ss.cons (.ife (B.val (.isa (.var 0) .tup)) (Ss.cons (.ret (.bf .tuple (Es.cons (.comp true (Ie.val (.var 0)) (.nm 1) [("part", 1)] Cs.all (.call i_deep_copy (Es.cons (.var 1) Es.nil))) Es.nil))) Ss.nil) Ss.nil) (Ss.cons (.ret (.var 0)) Ss.nil)))⟩
def f_within_inner : Fd := ⟨("within_inner", none), ["statement", "within"], ["statement", "within"], [], (Ss.cons (.ife (B.cmp .mem (.ix (.var 0) (.int 0)) (.tup (Es.cons (.str "def") (Es.cons (.str "class") Es.nil)))) (Ss.cons (.ret .ff) Ss.nil) Ss.nil) (Ss.cons (.ret (.orL (Es.cons (.var 1) (Es.cons (.cmp .eq (.ix (.var 0) (.int 0)) (.str "while")) Es.nil)))) Ss.nil))⟩
def f_inner_kind : Fd := ⟨("inner_kind", none), ["statement", "kind"], ["statement", "kind"], [], (Ss.cons (.ife (B.cmp .eq (.ix (.var 0) (.int 0)) (.str "def")) (Ss.cons (.ret (.str "def")) Ss.nil) Ss.nil) (Ss.cons (.ife (B.cmp .eq (.ix (.var 0) (.int 0)) (.str "class")) (Ss.cons (.ret (.str "method")) Ss.nil) Ss.nil) (Ss.cons (.ret (.var 1)) Ss.nil)))⟩
def f_check_block : Fd := ⟨("check_block", none), ["block", "place", "within", "kind", "before"], ["block", "place", "within", "kind", "before", "depth", "many", "index", "statement", "path", "number", "inner", "inside"], [], (Ss.cons (.asg (.nm 5) (.bin .add true (.bin .fdiv true (.bf .len (Es.cons (.var 1) Es.nil)) (.int 2)) (.int 1))) (Ss.cons (.asg (.nm 6) (.var 4)) (Ss.cons (.for_ (.tp [7, 8]) (Ie.enm (Es.cons (.var 0) Es.nil)) (Ss.cons (.asg (.nm 9) (.bin .add true (.var 1) (.tup (Es.cons (.var 7) Es.nil)))) (Ss.cons (.ife (B.orL (Bs.cons (B.cmp .eq (.var 7) (.glo g_MOST_IN_BLOCK)) (Bs.cons (B.cmp .eq (.var 6) (.glo g_MOST_STATEMENTS)) (Bs.cons (B.not (B.val (.call i_is_statement (Es.cons (.var 8) Es.nil)))) Bs.nil)))) (Ss.cons (.raiseF k_NoProgram a_path (.var 9)) Ss.nil) Ss.nil) (Ss.cons (.ife (B.val (.call i_is_misplaced (Es.cons (.var 8) (Es.cons (.var 5) (Es.cons (.var 2) (Es.cons (.var 3) Es.nil)))))) (Ss.cons (.raiseF k_NoProgram a_path (.var 9)) Ss.nil) Ss.nil) (Ss.cons (.asg (.nm 6) (.bin .add true (.var 6) (.int 1))) (Ss.cons (.for_ (.tp [10, 11]) (Ie.enm (Es.cons (.call i_inner_blocks (Es.cons (.var 8) Es.nil)) Es.nil)) (Ss.cons (.asg (.nm 12) (.call i_within_inner (Es.cons (.var 8) (Es.cons (.var 2) Es.nil)))) (Ss.cons (.asg (.nm 6) (.call i_check_block (Es.cons (.var 11) (Es.cons (.bin .add true (.var 9) (.tup (Es.cons (.var 10) Es.nil))) (Es.cons (.var 12) (Es.cons (.call i_inner_kind (Es.cons (.var 8) (Es.cons (.var 3) Es.nil))) (Es.cons (.var 6) Es.nil))))))) Ss.nil))) Ss.nil)))))) (Ss.cons (.ret (.var 6)) Ss.nil))))⟩
def f_codes_at : Fd := ⟨("codes_at", none), ["path", "statement"], ["path", "statement", "number"], [], (Ss.cons (.ife (B.cmp .nmem (.ix (.var 1) (.int 0)) (.tup (Es.cons (.str "def") (Es.cons (.str "class") Es.nil)))) (Ss.cons (.ret (.lst true Es.nil)) Ss.nil) Ss.nil) (Ss.cons (.ret (.comp true (Ie.rng1 (Es.cons (.bf .len (Es.cons (.call i_inner_blocks (Es.cons (.var 1) Es.nil)) Es.nil)) Es.nil)) (.nm 2) [("number", 2)] Cs.all (.bin .add true (.var 0) (.tup (Es.cons (.var 2) Es.nil))))) Ss.nil))⟩
def f_params_at : Fd := ⟨("params_at", none), ["path", "statement"], ["path", "statement", "method"], [], (Ss.cons (.ife (B.cmp .eq (.ix (.var 1) (.int 0)) (.str "def")) (Ss.cons (.ret (.lst true (Es.cons (.ix (.var 1) (.int 2)) Es.nil))) Ss.nil) Ss.nil) (Ss.cons (.ife (B.cmp .eq (.ix (.var 1) (.int 0)) (.str "class")) (Ss.cons (.ret (.comp true (Ie.val (.ix (.var 1) (.int 3))) (.nm 2) [("method", 2)] Cs.all (.ix (.var 2) (.int 1)))) Ss.nil) Ss.nil) (Ss.cons (.ret (.lst true Es.nil)) Ss.nil)))⟩
def f__law_source : Fd := ⟨("_law_source", none), ["_law_script", "_law_nodes", "_law_many"], ["_law_script", "_law_nodes", "_law_many"], [], (Ss.cons (.ret (.lst false (Es.cons (.bf (.list true) (Es.cons (.var 0) Es.nil)) (Es.cons (.int 0) (Es.cons (.int 0) (Es.cons (.int 1) (Es.cons (.int 0) (Es.cons (.var 1) (Es.cons (.var 2) Es.nil))))))))) Ss.nil)⟩
def f__law_draw : Fd := ⟨("_law_draw", none), ["_law_src", "_law_many"], ["_law_src", "_law_many", "_law_cell", "_law_digit", "_law_number"], [], (Ss.cons (.ife (B.andL (Bs.cons (B.cmp .eq (.ix (.var 0) (.int 2)) (.int 0)) (Bs.cons (B.cmp .lt (.ix (.var 0) (.int 1)) (.bf .len (Es.cons (.ix (.var 0) (.int 0)) Es.nil))) Bs.nil))) (Ss.cons (.asg (.nm 2) (.ix (.ix (.var 0) (.int 0)) (.ix (.var 0) (.int 1)))) (Ss.cons (.item (.var 0) (.int 1) (.bin .add false (.ix (.var 0) (.int 1)) (.int 1))) (Ss.cons (.ife (B.cmp .ge (.var 2) (.bin .pow true (.int 10) (.int 18))) (Ss.cons (.item (.var 0) (.int 2) (.var 2)) Ss.nil) (Ss.cons (.item (.var 0) (.int 3) (.bin .mod false (.bf .int (Es.cons (.bin .add true (.bin .mul true (.ix (.var 0) (.int 3)) (.int 69621)) (.var 2)) Es.nil)) (.int 2147483647))) Ss.nil)) Ss.nil))) Ss.nil) (Ss.cons (.ife (B.cmp .gt (.ix (.var 0) (.int 2)) (.int 0)) (Ss.cons (.asg (.nm 3) (.bin .mod true (.bf .int (Es.cons (.ix (.var 0) (.int 2)) Es.nil)) (.var 1))) (Ss.cons (.item (.var 0) (.int 2) (.bin .fdiv false (.ix (.var 0) (.int 2)) (.var 1))) (Ss.cons (.ret (.var 3)) Ss.nil))) Ss.nil) (Ss.cons (.item (.var 0) (.int 4) (.bin .add false (.ix (.var 0) (.int 4)) (.int 1))) (Ss.cons (.asg (.nm 4) (.bin .mod true (.bf .int (Es.cons (.bin .mul true (.bin .add true (.bin .add true (.ix (.var 0) (.int 3)) (.bin .mul true (.int 7919) (.ix (.var 0) (.int 4)))) (.int 1)) (.int 48271)) Es.nil)) (.int 2147483647))) (Ss.cons (.asg (.nm 4) (.bin .mod true (.bf .int (Es.cons (.bin .mul true (.var 4) (.bin .add true (.bin .fdiv true (.var 4) (.int 1009)) (.int 69621))) Es.nil)) (.int 2147483647))) (Ss.cons (.asg (.nm 4) (.bin .mod true (.bf .int (Es.cons (.bin .mul true (.var 4) (.bin .add true (.bin .fdiv true (.var 4) (.int 2003)) (.int 40692))) Es.nil)) (.int 2147483399))) (Ss.cons (.ret (.bin .mod true (.bf .int (Es.cons (.bin .fdiv true (.var 4) (.int 16)) Es.nil)) (.var 1))) Ss.nil)))))))⟩
def f__law_inner : Fd := ⟨("_law_inner", none), ["_law_statement"], ["_law_statement", "_law_method"], [], (Ss.cons (.ife (B.cmp .eq (.ix (.var 0) (.int 0)) (.str "if")) (Ss.cons (.ret (.lst true (Es.cons (.ix (.var 0) (.int 2)) (Es.cons (.ix (.var 0) (.int 3)) Es.nil)))) Ss.nil) Ss.nil) (Ss.cons (.ife (B.cmp .eq (.ix (.var 0) (.int 0)) (.str "while")) (Ss.cons (.ret (.lst true (Es.cons (.ix (.var 0) (.int 2)) Es.nil))) Ss.nil) Ss.nil) (Ss.cons (.ife (B.cmp .eq (.ix (.var 0) (.int 0)) (.str "try")) (Ss.cons (.ret (.lst true (Es.cons (.ix (.var 0) (.int 1)) (Es.cons (.ix (.var 0) (.int 3)) (Es.cons (.ix (.var 0) (.int 4)) Es.nil))))) Ss.nil) Ss.nil) (Ss.cons (.ife (B.cmp .eq (.ix (.var 0) (.int 0)) (.str "def")) (Ss.cons (.ret (.lst true (Es.cons (.ix (.var 0) (.int 3)) Es.nil))) Ss.nil) Ss.nil) (Ss.cons (.ife (B.cmp .eq (.ix (.var 0) (.int 0)) (.str "class")) (Ss.cons (.ret (.comp true (Ie.val (.ix (.var 0) (.int 3))) (.nm 1) [("_law_method", 1)] Cs.all (.ix (.var 1) (.int 2)))) Ss.nil) Ss.nil) (Ss.cons (.ret (.lst true Es.nil)) Ss.nil))))))⟩
def f__law_rows : Fd := ⟨("_law_rows", none), ["_law_block", "_law_place"], ["_law_block", "_law_place", "_law_rows_here", "_law_k", "_law_inner_here", "_law_number"], [], (Ss.cons (.asg (.nm 2) (.lst false Es.nil)) (Ss.cons (.for_ (.nm 3) (Ie.rng1 (Es.cons (.bf .len (Es.cons (.var 0) Es.nil)) Es.nil)) (Ss.cons (.expr (.bm .append (.var 2) (Es.cons (.tup (Es.cons (.bin .add true (.var 1) (.tup (Es.cons (.var 3) Es.nil))) (Es.cons (.ix (.var 0) (.var 3)) Es.nil))) Es.nil))) (Ss.cons (.asg (.nm 4) (.call i__law_inner (Es.cons (.ix (.var 0) (.var 3)) Es.nil))) (Ss.cons (.for_ (.nm 5) (Ie.rng1 (Es.cons (.bf .len (Es.cons (.var 4) Es.nil)) Es.nil)) (Ss.cons (.asg (.nm 2) (.bin .add false (.var 2) (.call i__law_rows (Es.cons (.ix (.var 4) (.var 5)) (Es.cons (.bin .add true (.var 1) (.tup (Es.cons (.var 3) (Es.cons (.var 5) Es.nil)))) Es.nil))))) Ss.nil)) Ss.nil)))) (Ss.cons (.ret (.frz (.var 2))) Ss.nil)))⟩
def f__law_same : Fd := ⟨("_law_same", none), ["_law_actual", "_law_due"], ["_law_actual", "_law_due", "_law_k"], [], (Ss.cons (.ife (B.orL (Bs.cons (B.val (.isa (.var 1) .lst)) (Bs.cons (B.val (.isa (.var 1) .tup)) Bs.nil))) (Ss.cons (.ife (B.andL (Bs.cons (B.val (.isa (.var 1) .lst)) (Bs.cons (B.not (B.val (.isa (.var 0) .lst))) Bs.nil))) (Ss.cons (.ret .ff) Ss.nil) Ss.nil) (Ss.cons (.ife (B.andL (Bs.cons (B.val (.isa (.var 1) .tup)) (Bs.cons (B.not (B.val (.isa (.var 0) .tup))) Bs.nil))) (Ss.cons (.ret .ff) Ss.nil) Ss.nil) (Ss.cons (.ife (B.cmp .ne (.bf .len (Es.cons (.var 0) Es.nil)) (.bf .len (Es.cons (.var 1) Es.nil))) (Ss.cons (.ret .ff) Ss.nil) Ss.nil) (Ss.cons (.ret (.bf .all (Es.cons (.comp true (Ie.rng1 (Es.cons (.bf .len (Es.cons (.var 1) Es.nil)) Es.nil)) (.nm 2) [("_law_k", 2)] Cs.all (.call i__law_same (Es.cons (.ix (.var 0) (.var 2)) (Es.cons (.ix (.var 1) (.var 2)) Es.nil)))) Es.nil))) Ss.nil)))) Ss.nil) (Ss.cons (.ife (B.cmp .is (.var 1) .non) (Ss.cons (.ret (.cmp .is (.var 0) .non)) Ss.nil) Ss.nil) (Ss.cons (.ife (B.val (.isa (.var 1) .str)) (Ss.cons (.ret (.andL (Es.cons (.isa (.var 0) .str) (Es.cons (.cmp .eq (.var 0) (.var 1)) Es.nil)))) Ss.nil) Ss.nil) (Ss.cons (.ife (B.val (.isa (.var 1) .bl)) (Ss.cons (.ret (.andL (Es.cons (.isa (.var 0) .bl) (Es.cons (.cmp .eq (.var 0) (.var 1)) Es.nil)))) Ss.nil) Ss.nil) (Ss.cons (.ret (.andL (Es.cons (.isa (.var 0) .int) (Es.cons (.not (.isa (.var 0) .bl)) (Es.cons (.cmp .eq (.var 0) (.var 1)) Es.nil))))) Ss.nil)))))⟩
def f__law_link : Fd := ⟨("_law_link", none), ["_law_src", "_law_block"], ["_law_src", "_law_block", "_law_shape", "_law_e", "_law_small"], [], (Ss.cons (.asg (.nm 2) (.call i__law_draw (Es.cons (.var 0) (Es.cons (.int 9) Es.nil)))) (Ss.cons (.asg (.nm 3) (.tup (Es.cons (.str "name") (Es.cons (.str "a") Es.nil)))) (Ss.cons (.asg (.nm 4) (.bin .mul true (.lst true (Es.cons (.tup (Es.cons (.str "say") (Es.cons (.var 3) Es.nil))) Es.nil)) (.call i__law_draw (Es.cons (.var 0) (Es.cons (.int 2) Es.nil))))) (Ss.cons (.ret (.ix (.lst true (Es.cons (.tup (Es.cons (.str "if") (Es.cons (.var 3) (Es.cons (.var 1) (Es.cons (.var 4) Es.nil))))) (Es.cons (.tup (Es.cons (.str "if") (Es.cons (.var 3) (Es.cons (.var 4) (Es.cons (.var 1) Es.nil))))) (Es.cons (.tup (Es.cons (.str "while") (Es.cons (.var 3) (Es.cons (.var 1) Es.nil)))) (Es.cons (.tup (Es.cons (.str "try") (Es.cons (.var 1) (Es.cons (.str "a") (Es.cons (.var 4) (Es.cons (.var 4) Es.nil)))))) (Es.cons (.tup (Es.cons (.str "try") (Es.cons (.var 4) (Es.cons (.str "a") (Es.cons (.var 1) (Es.cons (.var 4) Es.nil)))))) (Es.cons (.tup (Es.cons (.str "try") (Es.cons (.var 4) (Es.cons (.str "a") (Es.cons (.var 4) (Es.cons (.var 1) Es.nil)))))) (Es.cons (.tup (Es.cons (.str "def") (Es.cons (.str "f") (Es.cons (.lst true Es.nil) (Es.cons (.var 1) Es.nil))))) (Es.cons (.tup (Es.cons (.str "class") (Es.cons (.str "c") (Es.cons (.var 3) (Es.cons (.lst true (Es.cons (.tup (Es.cons (.str "m") (Es.cons (.lst true (Es.cons (.str "a") Es.nil)) (Es.cons (.var 1) Es.nil)))) (Es.cons (.tup (Es.cons (.str "n") (Es.cons (.lst true (Es.cons (.str "a") Es.nil)) (Es.cons (.var 4) Es.nil)))) Es.nil))) Es.nil))))) (Es.cons (.tup (Es.cons (.str "class") (Es.cons (.str "c") (Es.cons .non (Es.cons (.lst true (Es.cons (.tup (Es.cons (.str "m") (Es.cons (.lst true (Es.cons (.str "a") Es.nil)) (Es.cons (.var 4) Es.nil)))) (Es.cons (.tup (Es.cons (.str "n") (Es.cons (.lst true (Es.cons (.str "a") Es.nil)) (Es.cons (.var 1) Es.nil)))) Es.nil))) Es.nil))))) Es.nil)))))))))) (.var 2))) Ss.nil))))⟩
def f__law_chain : Fd := ⟨("_law_chain", none), ["_law_src", "_law_roomy"], ["_law_src", "_law_roomy", "_law_depth", "_law_many", "_law_block", "_law_k", "_law_beside", "_law_link_here"], [], (Ss.cons (.asg (.nm 2) (.ix (.lst true (Es.cons (.int 0) (Es.cons (.int 1) (Es.cons (.int 5) (Es.cons (.int 6) (Es.cons (.int 7) (Es.cons (.int 8) (Es.cons (.call i__law_draw (Es.cons (.var 0) (Es.cons (.int 10) Es.nil))) Es.nil)))))))) (.call i__law_draw (Es.cons (.var 0) (Es.cons (.int 7) Es.nil))))) (Ss.cons (.asg (.nm 3) (.ix (.lst true (Es.cons (.int 0) (Es.cons (.int 1) (Es.cons (.int 2) (Es.cons (.int 11) (Es.cons (.int 12) (Es.cons (.int 13) (Es.cons (.int 14) (Es.cons (.call i__law_draw (Es.cons (.var 0) (Es.cons (.int 15) Es.nil))) Es.nil))))))))) (.call i__law_draw (Es.cons (.var 0) (Es.cons (.int 8) Es.nil))))) (Ss.cons (.ife (B.val (.var 1)) (Ss.cons (.asg (.nm 2) (.ix (.lst true (Es.cons (.int 0) (Es.cons (.int 1) (Es.cons (.int 1) (Es.cons (.int 2) (Es.cons (.int 3) (Es.cons (.int 7) Es.nil))))))) (.call i__law_draw (Es.cons (.var 0) (Es.cons (.int 6) Es.nil))))) (Ss.cons (.asg (.nm 3) (.ix (.lst true (Es.cons (.int 1) (Es.cons (.int 2) (Es.cons (.int 4) (Es.cons (.int 6) (Es.cons (.int 9) (Es.cons (.int 12) Es.nil))))))) (.call i__law_draw (Es.cons (.var 0) (Es.cons (.int 6) Es.nil))))) Ss.nil)) Ss.nil) (Ss.cons (.asg (.nm 4) (.bin .mul true (.lst true (Es.cons (.tup (Es.cons (.str "cut") (Es.cons (.tup (Es.cons (.str "yes") Es.nil)) Es.nil))) Es.nil)) (.var 3))) (Ss.cons (.ife (B.cmp .eq (.call i__law_draw (Es.cons (.var 0) (Es.cons (.int 4) Es.nil))) (.int 0)) (Ss.cons (.asg (.nm 4) (.bin .add true (.lst true (Es.cons (.tup (Es.cons (.str "class") (Es.cons (.str "d") (Es.cons .non (Es.cons (.lst true Es.nil) Es.nil))))) Es.nil)) (.sl true (.var 4) (OE.so (.int 1)) OE.no))) Ss.nil) Ss.nil) (Ss.cons (.for_ (.nm 5) (Ie.rng1 (Es.cons (.var 2) Es.nil)) (Ss.cons (.asg (.nm 6) (.call i__law_draw (Es.cons (.var 0) (Es.cons (.int 8) Es.nil)))) (Ss.cons (.asg (.nm 7) (.call i__law_link (Es.cons (.var 0) (Es.cons (.var 4) Es.nil)))) (Ss.cons (.asg (.nm 4) (.bin .add true (.bin .add true (.bin .mul true (.lst true (Es.cons (.tup (Es.cons (.str "add") (Es.cons (.tup (Es.cons (.str "none") Es.nil)) (Es.cons (.tup (Es.cons (.str "no") Es.nil)) Es.nil)))) Es.nil)) (.bf .int (Es.cons (.cmp .gt (.var 6) (.int 5)) Es.nil))) (.lst true (Es.cons (.var 7) Es.nil))) (.bin .mul true (.lst true (Es.cons (.tup (Es.cons (.str "raise") (Es.cons (.tup (Es.cons (.str "none") Es.nil)) Es.nil))) Es.nil)) (.bf .int (Es.cons (.cmp .eq (.var 6) (.int 7)) Es.nil))))) Ss.nil)))) (Ss.cons (.ife (B.cmp .eq (.var 2) (.int 0)) (Ss.cons (.ret (.tup (Es.cons (.str "if") (Es.cons (.tup (Es.cons (.str "yes") Es.nil)) (Es.cons (.var 4) (Es.cons (.lst true Es.nil) Es.nil)))))) Ss.nil) Ss.nil) (Ss.cons (.ret (.ix (.var 4) (.bin .fdiv true (.bf .len (Es.cons (.var 4) Es.nil)) (.int 2)))) Ss.nil))))))))⟩
def f__law_count : Fd := ⟨("_law_count", none), ["_law_block"], ["_law_block", "_law_many", "_law_s", "_law_inner_here"], [], (Ss.cons (.asg (.nm 1) (.bf .len (Es.cons (.var 0) Es.nil))) (Ss.cons (.for_ (.nm 2) (Ie.val (.var 0)) (Ss.cons (.for_ (.nm 3) (Ie.val (.call i__law_inner (Es.cons (.var 2) Es.nil))) (Ss.cons (.asg (.nm 1) (.bin .add true (.var 1) (.call i__law_count (Es.cons (.var 3) Es.nil)))) Ss.nil)) Ss.nil)) (Ss.cons (.ret (.var 1)) Ss.nil)))⟩
def f__law_first : Fd := ⟨("_law_first", none), ["_law_block", "_law_place", "_law_many"], ["_law_block", "_law_place", "_law_many", "_law_depth", "_law_k", "_law_path", "_law_inner_here", "_law_number", "_law_found"], [], (Ss.cons (.asg (.nm 3) (.bin .add true (.bin .fdiv true (.bf .len (Es.cons (.var 1) Es.nil)) (.int 2)) (.int 1))) (Ss.cons (.for_ (.nm 4) (Ie.rng1 (Es.cons (.bf .len (Es.cons (.var 0) Es.nil)) Es.nil)) (Ss.cons (.asg (.nm 5) (.bin .add true (.var 1) (.tup (Es.cons (.var 4) Es.nil)))) (Ss.cons (.asg (.nm 6) (.call i__law_inner (Es.cons (.ix (.var 0) (.var 4)) Es.nil))) (Ss.cons (.ife (B.orL (Bs.cons (B.cmp .eq (.var 4) (.int 12)) (Bs.cons (B.cmp .eq (.var 2) (.int 80)) (Bs.cons (B.andL (Bs.cons (B.cmp .eq (.var 3) (.int 8)) (Bs.cons (B.cmp .gt (.bf .len (Es.cons (.var 6) Es.nil)) (.int 0)) Bs.nil))) Bs.nil)))) (Ss.cons (.ret (.tup (Es.cons (.var 5) (Es.cons (.var 2) Es.nil)))) Ss.nil) Ss.nil) (Ss.cons (.asg (.nm 2) (.bin .add true (.var 2) (.int 1))) (Ss.cons (.for_ (.nm 7) (Ie.rng1 (Es.cons (.bf .len (Es.cons (.var 6) Es.nil)) Es.nil)) (Ss.cons (.asg (.nm 8) (.call i__law_first (Es.cons (.ix (.var 6) (.var 7)) (Es.cons (.bin .add true (.var 5) (.tup (Es.cons (.var 7) Es.nil))) (Es.cons (.var 2) Es.nil))))) (Ss.cons (.ife (B.cmp .nis (.ix (.var 8) (.int 0)) .non) (Ss.cons (.ret (.var 8)) Ss.nil) Ss.nil) (Ss.cons (.asg (.nm 2) (.ix (.var 8) (.int 1))) Ss.nil)))) Ss.nil)))))) (Ss.cons (.ret (.tup (Es.cons .non (Es.cons (.var 2) Es.nil)))) Ss.nil)))⟩
def f_law : Fd := ⟨("law", none), ["_law_script"], ["_law_script", "_law_src", "_law_block", "_law_roomy", "_law_size", "_law_k", "_law_chain_here", "_law_due", "_law_told", "_law_many", "_law_e"], [], (Ss.cons (.asg (.nm 1) (.call i__law_source (Es.cons (.var 0) (Es.cons (.int 0) (Es.cons (.int 0) Es.nil))))) (Ss.cons (.asg (.nm 2) (.lst false Es.nil)) (Ss.cons (.asg (.nm 3) (.cmp .eq (.call i__law_draw (Es.cons (.var 1) (Es.cons (.int 2) Es.nil))) (.int 1))) (Ss.cons (.asg (.nm 4) (.ix (.lst true (Es.cons (.int 0) (Es.cons (.int 1) (Es.cons (.int 2) (Es.cons (.int 3) (Es.cons (.int 5) (Es.cons (.int 8) (Es.cons (.int 12) (Es.cons (.int 13) (Es.cons (.call i__law_draw (Es.cons (.var 1) (Es.cons (.int 14) Es.nil))) Es.nil)))))))))) (.call i__law_draw (Es.cons (.var 1) (Es.cons (.int 9) Es.nil))))) (Ss.cons (.ife (B.val (.var 3)) (Ss.cons (.asg (.nm 4) (.bin .add true (.int 6) (.call i__law_draw (Es.cons (.var 1) (Es.cons (.int 7) Es.nil))))) Ss.nil) Ss.nil) (Ss.cons (.for_ (.nm 5) (Ie.rng1 (Es.cons (.var 4) Es.nil)) (Ss.cons (.asg (.nm 6) (.call i__law_chain (Es.cons (.var 1) (Es.cons (.var 3) Es.nil)))) (Ss.cons (.ife (B.andL (Bs.cons (B.cmp .lt (.bf .len (Es.cons (.var 2) Es.nil)) (.bin .sub true (.int 13) (.bf .int (Es.cons (.var 3) Es.nil)))) (Bs.cons (B.orL (Bs.cons (B.not (B.val (.var 3))) (Bs.cons (B.cmp .lt (.call i__law_count (Es.cons (.bin .add true (.var 2) (.lst true (Es.cons (.var 6) Es.nil))) Es.nil)) (.int 81)) Bs.nil))) Bs.nil))) (Ss.cons (.expr (.bm .append (.var 2) (Es.cons (.var 6) Es.nil))) Ss.nil) Ss.nil) (Ss.cons (.ife (B.andL (Bs.cons (B.cmp .eq (.call i__law_draw (Es.cons (.var 1) (Es.cons (.int 3) Es.nil))) (.int 0)) (Bs.cons (B.cmp .lt (.bf .len (Es.cons (.var 2) Es.nil)) (.bin .sub true (.int 13) (.bf .int (Es.cons (.var 3) Es.nil)))) Bs.nil))) (Ss.cons (.expr (.bm .append (.var 2) (Es.cons (.tup (Es.cons (.str "say") (Es.cons (.tup (Es.cons (.str "text") (Es.cons (.str "a") Es.nil))) Es.nil))) Es.nil))) Ss.nil) Ss.nil) Ss.nil)))) (Ss.cons (.for_ (.nm 5) (Ie.rng1 (Es.cons (.bin .mul true (.bin .mul true (.call i__law_draw (Es.cons (.var 1) (Es.cons (.int 3) Es.nil))) (.int 6)) (.bf .int (Es.cons (.var 3) Es.nil))) Es.nil)) (Ss.cons (.ife (B.andL (Bs.cons (B.cmp .lt (.bf .len (Es.cons (.var 2) Es.nil)) (.int 12)) (Bs.cons (B.cmp .lt (.call i__law_count (Es.cons (.var 2) Es.nil)) (.bin .sub true (.int 81) (.call i__law_draw (Es.cons (.var 1) (Es.cons (.int 2) Es.nil))))) Bs.nil))) (Ss.cons (.expr (.bm .append (.var 2) (Es.cons (.tup (Es.cons (.str "cut") (Es.cons (.tup (Es.cons (.str "none") Es.nil)) Es.nil))) Es.nil))) Ss.nil) Ss.nil) Ss.nil)) (Ss.cons (.frzv 2 (.asg (.nm 7) (.call i__law_first (Es.cons (.var 2) (Es.cons (.tup Es.nil) (Es.cons (.int 0) Es.nil)))))) (Ss.cons (.ife (B.cmp .gt (.bf .len (Es.cons (.var 2) Es.nil)) (.int 12)) (Ss.cons (.asg (.nm 7) (.tup (Es.cons (.tup Es.nil) (Es.cons (.int 0) Es.nil)))) Ss.nil) Ss.nil) (Ss.cons (.asg (.nm 8) .non) (Ss.cons (.asg (.nm 9) (.ngi 1)) (Ss.cons (.tryAs (Ss.cons (.asg (.nm 9) (.olen a___len__ (.make k_Program (Es.cons (.var 2) Es.nil)))) Ss.nil) k_NoProgram 10 [(HS.asg 8 (.tup (HEs.cons (.hf a_path) (HEs.cons (.int 0) HEs.nil))))]) (Ss.cons (.ife (B.cmp .is (.ix (.var 7) (.int 0)) .non) (Ss.cons (.ret (.andL (Es.cons (.cmp .is (.var 8) .non) (Es.cons (.cmp .eq (.var 9) (.ix (.var 7) (.int 1))) Es.nil)))) Ss.nil) Ss.nil) (Ss.cons (.ret (.andL (Es.cons (.cmp .nis (.var 8) .non) (Es.cons (.call i__law_same (Es.cons (.ix (.var 8) (.int 0)) (Es.cons (.ix (.var 7) (.int 0)) Es.nil))) Es.nil)))) Ss.nil))))))))))))))⟩
def m_Program___init__ : Fd := ⟨("Program", some "__init__"), ["self", "block"], ["self", "block"], [], (Ss.cons (.ife (B.orL (Bs.cons (B.not (B.val (.isa (.var 1) .lst))) (Bs.cons (B.cmp .gt (.bf .len (Es.cons (.var 1) Es.nil)) (.glo g_MOST_IN_BLOCK)) Bs.nil))) (Ss.cons (.raiseF k_NoProgram a_path (.tup Es.nil)) Ss.nil) Ss.nil) (Ss.cons (.expr (.call i_check_block (Es.cons (.var 1) (Es.cons (.tup Es.nil) (Es.cons .ff (Es.cons (.str "top") (Es.cons (.int 0) Es.nil))))))) (Ss.cons (.put a_top (.var 0) (.call i_deep_copy (Es.cons (.var 1) Es.nil))) (Ss.cons (.put a_order (.var 0) (.lst false Es.nil)) (Ss.cons (.put a_statements (.var 0) (.dct0 true)) (Ss.cons (.put a_owners (.var 0) (.dct0 true)) (Ss.cons (.put a_blocks (.var 0) (.dct0 true)) (Ss.cons (.put a_parameters (.var 0) (.dct1 (.tup Es.nil) (.lst false Es.nil))) (Ss.cons (.put a_kinds_of_codes (.var 0) (.dct1 (.tup Es.nil) (.str "top"))) (Ss.cons (.expr (.meth a_keep_block (.var 0) (Es.cons (.fld a_top (.var 0)) (Es.cons (.tup Es.nil) (Es.cons (.tup Es.nil) Es.nil))))) (Ss.cons (.put a_written (.var 0) (.bf .repr (Es.cons (.fld a_top (.var 0)) Es.nil))) Ss.nil)))))))))))⟩
def m_Program_keep_block : Fd := ⟨("Program", some "keep_block"), ["self", "block", "place", "code"], ["self", "block", "place", "code", "index", "statement", "path", "inner", "number", "at"], [], (Ss.cons (.item (.fld a_blocks (.var 0)) (.var 2) (.var 1)) (Ss.cons (.for_ (.tp [4, 5]) (Ie.enm (Es.cons (.var 1) Es.nil)) (Ss.cons (.asg (.nm 6) (.bin .add true (.var 2) (.tup (Es.cons (.var 4) Es.nil)))) (Ss.cons (.expr (.bm .append (.fld a_order (.var 0)) (Es.cons (.var 6) Es.nil))) (Ss.cons (.item (.fld a_statements (.var 0)) (.var 6) (.var 5)) (Ss.cons (.item (.fld a_owners (.var 0)) (.var 6) (.var 3)) (Ss.cons (.expr (.meth a_keep_codes (.var 0) (Es.cons (.var 6) (Es.cons (.var 5) Es.nil)))) (Ss.cons (.asg (.nm 7) (.call i_inner_blocks (Es.cons (.var 5) Es.nil))) (Ss.cons (.for_ (.nm 8) (Ie.rng1 (Es.cons (.bf .len (Es.cons (.var 7) Es.nil)) Es.nil)) (Ss.cons (.asg (.nm 9) (.bin .add true (.var 6) (.tup (Es.cons (.var 8) Es.nil)))) (Ss.cons (.ife (B.cmp .mem (.var 9) (.fld a_parameters (.var 0))) (Ss.cons (.expr (.meth a_keep_block (.var 0) (Es.cons (.ix (.var 7) (.var 8)) (Es.cons (.var 9) (Es.cons (.var 9) Es.nil))))) Ss.nil) (Ss.cons (.expr (.meth a_keep_block (.var 0) (Es.cons (.ix (.var 7) (.var 8)) (Es.cons (.var 9) (Es.cons (.var 3) Es.nil))))) Ss.nil)) Ss.nil))) Ss.nil)))))))) Ss.nil))⟩
def m_Program_keep_codes : Fd := ⟨("Program", some "keep_codes"), ["self", "path", "statement"], ["self", "path", "statement", "params", "number", "at"], [], (Ss.cons (.asg (.nm 3) (.call i_params_at (Es.cons (.var 1) (Es.cons (.var 2) Es.nil)))) (Ss.cons (.for_ (.tp [4, 5]) (Ie.enm (Es.cons (.call i_codes_at (Es.cons (.var 1) (Es.cons (.var 2) Es.nil))) Es.nil)) (Ss.cons (.item (.fld a_parameters (.var 0)) (.var 5) (.ix (.var 3) (.var 4))) (Ss.cons (.item (.fld a_kinds_of_codes (.var 0)) (.var 5) (.call i_inner_kind (Es.cons (.var 2) (Es.cons (.str "top") Es.nil)))) Ss.nil))) Ss.nil))⟩
def m_Program_block : Fd := ⟨("Program", some "block"), ["self"], ["self"], [], (Ss.cons (.ret (.call i_deep_copy (Es.cons (.fld a_top (.var 0)) Es.nil))) Ss.nil)⟩
def m_Program_codes : Fd := ⟨("Program", some "codes"), ["self"], ["self"], [], (Ss.cons (.ret (.bf (.list true) (Es.cons (.fld a_parameters (.var 0)) Es.nil))) Ss.nil)⟩
def m_Program_is_path : Fd := ⟨("Program", some "is_path"), ["self", "thing"], ["self", "thing", "part"], [], (Ss.cons (.ife (B.orL (Bs.cons (B.not (B.val (.isa (.var 1) .tup))) (Bs.cons (B.not (B.val (.bf .all (Es.cons (.comp true (Ie.val (.var 1)) (.nm 2) [("part", 2)] Cs.all (.call i_is_integer (Es.cons (.var 2) Es.nil))) Es.nil)))) Bs.nil))) (Ss.cons (.ret .ff) Ss.nil) Ss.nil) (Ss.cons (.ret (.cmp .mem (.var 1) (.fld a_statements (.var 0)))) Ss.nil))⟩
def m_Program_checked : Fd := ⟨("Program", some "checked"), ["self", "thing"], ["self", "thing"], [], (Ss.cons (.ife (B.not (B.val (.meth a_is_path (.var 0) (Es.cons (.var 1) Es.nil)))) (Ss.cons (.raise0 k_NoPath) Ss.nil) Ss.nil) (Ss.cons (.ret (.var 1)) Ss.nil))⟩
def m_Program_params : Fd := ⟨("Program", some "params"), ["self", "code"], ["self", "code"], [], (Ss.cons (.ret (.ix (.fld a_parameters (.var 0)) (.var 1))) Ss.nil)⟩
def m_Program___getitem__ : Fd := ⟨("Program", some "__getitem__"), ["self", "path"], ["self", "path"], [], (Ss.cons (.ret (.call i_deep_copy (Es.cons (.ix (.fld a_statements (.var 0)) (.meth a_checked (.var 0) (Es.cons (.var 1) Es.nil))) Es.nil))) Ss.nil)⟩
def m_Program___len__ : Fd := ⟨("Program", some "__len__"), ["self"], ["self"], [], (Ss.cons (.ret (.bf .len (Es.cons (.fld a_order (.var 0)) Es.nil))) Ss.nil)⟩
def m_Program___eq__ : Fd := ⟨("Program", some "__eq__"), ["self", "other"], ["self", "other"], [], (Ss.cons (.ret (.andL (Es.cons (.isa (.var 1) (.own k_Program)) (Es.cons (.cmp .eq (.fld a_top (.var 0)) (.fld a_top (.var 1))) Es.nil)))) Ss.nil)⟩
def c_AnswerError : Cd := ⟨"AnswerError", none, [], [], [], true, none, [], [(0, true), (1, false), (2, false)], [((.own 0), true), ((.own 1), false), ((.own 2), false), (.non, true)]⟩
def c_NoProgram : Cd := ⟨"NoProgram", none, [], [], [], false, some 0, [0], [(0, true), (1, true), (2, false)], [((.own 0), true), ((.own 1), true), ((.own 2), false), (.non, true)]⟩
def c_NoPath : Cd := ⟨"NoPath", none, [], [], [], true, none, [], [(0, true), (1, false), (2, true)], [((.own 0), true), ((.own 1), false), ((.own 2), true), (.non, true)]⟩
def c_Program : Cd := ⟨"Program", some 36, [(9, 37), (11, 38), (12, 41), (13, 42), (1, 45)], [2, 3, 4, 5, 6, 7, 8, 10], [((.own 3), true), (.bl, false), (.int, false), (.str, false), (.lst, false), (.tup, false), (.dic, false)], false, none, [], [], []⟩
def gfs : List Fd := (([f_is_integer, f_is_name, f_is_phrase, f_begins_with_word, f_is_leaf, f_is_collection, f_is_expression, f_parts, f_uses_above, f_fits, f_is_simple, f_is_call, f_are_params, f_are_methods, f_is_try, f_is_compound, f_is_statement, f_inner_blocks, f_expressions_of, f_is_misplaced] : List Fd) ++ ([f_deep_copy, f_within_inner, f_inner_kind, f_check_block, f_codes_at, f_params_at, f__law_source, f__law_draw, f__law_inner, f__law_rows, f__law_same, f__law_link, f__law_chain, f__law_count, f__law_first, f_law] : List Fd))
def mfs : List Fd := (([m_Program___init__, m_Program_keep_block, m_Program_keep_codes, m_Program_block, m_Program_codes, m_Program_is_path, m_Program_checked, m_Program_params, m_Program___getitem__, m_Program___len__, m_Program___eq__] : List Fd))
def nms : List Str := ["path", "__len__", "top", "order", "statements", "owners", "blocks", "parameters", "kinds_of_codes", "keep_block", "written", "keep_codes", "is_path", "checked"]
def gvs : List (Str × Gv) := (([("WORDS", (.tup (([(.str "let"), (.str "set"), (.str "put"), (.str "add"), (.str "cut"), (.str "say"), (.str "ask"), (.str "if"), (.str "else"), (.str "while"), (.str "leave"), (.str "give"), (.str "raise"), (.str "try"), (.str "catch"), (.str "last"), (.str "def"), (.str "class"), (.str "over"), (.str "call")] : List At) ++ ([(.str "none"), (.str "yes"), (.str "no"), (.str "and"), (.str "or"), (.str "not"), (.str "len"), (.str "kind"), (.str "above"), (.str "at")] : List At)))), ("LETTERS", (.at_ (.str "abcdefghijklmnopqrstuvwxyz"))), ("PHRASE_CHARACTERS", (.at_ (.str "abcdefghijklmnopqrstuvwxyz0123456789 "))), ("OPERATORS", (.tup (([(.str "+"), (.str "-"), (.str "*"), (.str "<"), (.str "=="), (.str "and"), (.str "or")] : List At)))), ("HOWS", (.tup (([(.str "let"), (.str "set"), (.str "drop"), (.str "give"), (.str "say")] : List At)))), ("MOST_EXPRESSION_DEPTH", (.at_ (.int 5))), ("MOST_BLOCK_DEPTH", (.at_ (.int 8))), ("MOST_IN_BLOCK", (.at_ (.int 12))), ("MOST_STATEMENTS", (.at_ (.int 80)))] : List (Str × Gv)))
def kds : List (Str × List (Str × At)) := (([("SIMPLE", [("let", (.str "ne")), ("set", (.str "ne")), ("put", (.str "ene")), ("place", (.str "eee")), ("add", (.str "ee")), ("cut", (.str "e")), ("say", (.str "e")), ("ask", (.str "np")), ("leave", (.str "")), ("give", (.str "e")), ("raise", (.str "e"))])] : List (Str × List (Str × At))))
theorem nd : nms.Nodup := by decide +kernel
def pd : Pd := ⟨gfs, mfs, nms, [c_AnswerError, c_NoProgram, c_NoPath, c_Program], gvs, kds, 100000, "/claim/cut.py", nd⟩
end MPT
end

section
set_option maxHeartbeats 0
namespace MPT
open PySem PySem.Spec PyProof.Rows L2 MP
def loose : List Str := ((["_wall", "WORDS", "LETTERS", "PHRASE_CHARACTERS", "OPERATORS", "HOWS", "MOST_EXPRESSION_DEPTH", "MOST_BLOCK_DEPTH", "MOST_IN_BLOCK", "MOST_STATEMENTS", "SIMPLE", "is_integer", "is_name", "is_phrase", "begins_with_word", "is_leaf", "is_collection", "is_expression", "parts", "uses_above"] : List Str) ++ (["fits", "is_simple", "is_call", "are_params", "are_methods", "is_try", "is_compound", "is_statement", "inner_blocks", "expressions_of", "is_misplaced", "deep_copy", "AnswerError", "NoProgram", "NoPath", "within_inner", "inner_kind", "check_block", "codes_at", "params_at"] : List Str) ++ (["Program", "_law_source", "_law_draw", "_law_inner", "_law_rows", "_law_same", "_law_link", "_law_chain", "_law_count", "_law_first"] : List Str))
abbrev R : PySem.W.OpenRow := PySem.W.OpenLaw.row PySem.Challenge.rw_everyanswer_k07_whole_limits
def asL : List Addr := ([2, 3, 6, 4, 21, 22, 23, 24, 25, 32, 37, 42, 49, 56, 61, 69, 74, 79, 86, 93, 98, 103, 110, 115, 122, 129, 134, 139, 144, 149, 159, 181, 193, 202, 209, 216, 221, 226, 381, 392] ++ [399, 404, 411, 416, 423, 430, 437, 444, 451, 0, 20, 31, 36, 41, 48, 55, 60, 68, 62, 73, 78, 85, 92, 97, 102, 109, 114, 121, 128, 133, 138, 143, 148, 158, 180, 192, 201, 208, 215, 220] ++ [225, 380, 391, 398, 403, 410, 415, 422, 429, 436, 443, 450, 15, 16, 17, 18, 19, 26, 27, 28, 29, 30, 33, 34, 35, 38, 39, 40, 43, 44, 45, 46, 47, 50, 51, 52, 53, 54, 57, 58] ++ [59, 63, 64, 65, 66, 67, 70, 71, 72, 75, 76, 77, 80, 81, 82, 83, 84, 87, 88, 89, 90, 91, 94, 95, 96, 99, 100, 101, 104, 105, 106, 107, 108, 111, 112, 113, 116, 117, 118, 119] ++ [120, 123, 124, 125, 126, 127, 130, 131, 132, 135, 136, 137, 140, 141, 142, 145, 146, 147, 157, 160, 178, 179, 191, 196, 197, 198, 199, 200, 203, 204, 205, 206, 207, 210, 211, 212, 213, 214, 217, 218] ++ [219, 222, 223, 224, 240, 247, 254, 261, 268, 275, 282, 287, 294, 301, 308, 315, 322, 329, 336, 343, 350, 357, 364, 371, 378, 379, 382, 383, 386, 387, 388, 389, 390, 393, 394, 395, 396, 397, 400, 401] ++ [402, 405, 406, 407, 408, 409, 412, 413, 414, 417, 418, 419, 420, 421, 424, 425, 426, 427, 428, 431, 432, 433, 434, 435, 438, 439, 440, 441, 442, 445, 446, 447, 448, 449, 177, 166, 239, 246, 253, 260] ++ [267, 274, 281, 286, 293, 300, 307, 314, 321, 328, 335, 342, 349, 356, 363, 370, 377, 172, 173, 174, 175, 176, 234, 235, 236, 237, 238, 241, 242, 243, 244, 245, 248, 249, 250, 251, 252, 255, 256, 257] ++ [258, 259, 262, 263, 264, 265, 266, 269, 270, 271, 272, 273, 276, 277, 278, 279, 280, 283, 284, 285, 288, 289, 290, 291, 292, 295, 296, 297, 298, 299, 302, 303, 304, 305, 306, 309, 310, 311, 312, 313] ++ [316, 317, 318, 319, 320, 323, 324, 325, 326, 327, 330, 331, 332, 333, 334, 337, 338, 339, 340, 341, 344, 345, 346, 347, 348, 351, 352, 353, 354, 355, 358, 359, 360, 361, 362, 365, 366, 367, 368, 369] ++ [372, 373, 374, 375, 376])
def srcs : List (List Stmt × Scope) := ([(srcG R.prog 12), (srcG R.prog 13), (srcG R.prog 14), (srcG R.prog 15), (srcG R.prog 16), (srcG R.prog 17), (srcG R.prog 18), (srcG R.prog 19), (srcG R.prog 20), (srcG R.prog 21), (srcG R.prog 22), (srcG R.prog 23), (srcG R.prog 24), (srcG R.prog 25), (srcG R.prog 26), (srcG R.prog 27), (srcG R.prog 28), (srcG R.prog 29), (srcG R.prog 30), (srcG R.prog 31)] ++ [(srcG R.prog 32), (srcG R.prog 38), (srcG R.prog 39), (srcG R.prog 40), (srcG R.prog 41), (srcG R.prog 42), (srcG R.prog 45), (srcG R.prog 46), (srcG R.prog 47), (srcG R.prog 48), (srcG R.prog 49), (srcG R.prog 50), (srcG R.prog 51), (srcG R.prog 52), (srcG R.prog 53), (srcG R.prog 54), (srcM R.prog 43 0), (srcM R.prog 43 1), (srcM R.prog 43 2), (srcM R.prog 43 3)] ++ [(srcM R.prog 43 5), (srcM R.prog 43 7), (srcM R.prog 43 9), (srcM R.prog 43 15), (srcM R.prog 43 17), (srcM R.prog 43 19), (srcM R.prog 43 20)])
abbrev okZ : List (Fd × (List Stmt × Scope)) := pd.fns.zip srcs
theorem ra0 : ((okZ.drop 0).take 12).all (fun e => e.1.okA pd.L e.2) = true := by kernel_rfl
theorem ra12 : ((okZ.drop 12).take 12).all (fun e => e.1.okA pd.L e.2) = true := by kernel_rfl
theorem ra24 : ((okZ.drop 24).take 12).all (fun e => e.1.okA pd.L e.2) = true := by kernel_rfl
theorem ra36 : ((okZ.drop 36).take 12).all (fun e => e.1.okA pd.L e.2) = true := by kernel_rfl
theorem raAll : okZ.all (fun e => e.1.okA pd.L e.2) = true := by
  have h : (okZ.drop 0).all (fun e => e.1.okA pd.L e.2) = true := (all_cut (n := 12) ra0 (by rw [List.drop_drop]; exact (all_cut (n := 12) ra12 (by rw [List.drop_drop]; exact (all_cut (n := 12) ra24 (by rw [List.drop_drop]; exact (all_cut (n := 12) ra36 (by rw [List.drop_drop]; exact (by kernel_rfl)))))))))
  exact h
theorem rr0 : ∀ w : World, RunR R asL (PySem.W.view R.prog [54]) pd srcs 6000 loose (w.withFollow "special-get-raises" false) := by
  intro w os
  kernel_rfl
theorem run0 (w : World) : HandSHeadRun.RunEq R (PySem.W.view R.prog [54]) (hookA asL pd) (obA asL pd) 6000 loose (w.withFollow "special-get-raises" false) := (rr0 w).eq raAll
theorem rr1 : ∀ w : World, RunR R asL (PySem.W.view R.prog [54]) pd srcs 6000 loose (w.withFollow "special-get-raises" true) := by
  intro w os
  kernel_rfl
theorem run1 (w : World) : HandSHeadRun.RunEq R (PySem.W.view R.prog [54]) (hookA asL pd) (obA asL pd) 6000 loose (w.withFollow "special-get-raises" true) := (rr1 w).eq raAll
end MPT
end

section
set_option maxHeartbeats 4000000
/-! MPEval: the small interpreter's equations, for simp. -/
namespace MP
open PySem PySem.Spec PyProof.Rows L2

/-- keeps simp from taking an equation as one by definition: the kernel would unfold both sides -/
theorem eqI {α : Sort u} {a b : α} (h : a = b) : a = b := h

/-! ### texts -/
theorem ofString_inj {a b : String} : Str.ofString a = Str.ofString b ↔ a = b := by
  constructor
  · intro h
    rw [Str.ofString_eq_toList, Str.ofString_eq_toList] at h
    have h1 : (a.toList.map Char.toNat).toArray = (b.toList.map Char.toNat).toArray := congrArg Str.cps h
    have h2 : a.toList.map Char.toNat = b.toList.map Char.toNat := by simpa using congrArg Array.toList h1
    have inj : ∀ x y : Char, x.toNat = y.toNat → x = y := fun x y e => by
      apply Char.ext
      exact UInt32.toNat_inj.mp e
    have h3 : a.toList = b.toList := by
      have : ∀ l r : List Char, l.map Char.toNat = r.map Char.toNat → l = r := by
        intro l
        induction l with
        | nil => intro r h; cases r with
          | nil => rfl
          | cons _ _ => simp at h
        | cons x l ih => intro r h; cases r with
          | nil => simp at h
          | cons y r =>
            simp only [List.map_cons, List.cons.injEq] at h
            rw [inj x y h.1, ih r h.2]
      exact this _ _ h2
    exact String.toList_inj.mp h3
  · intro h; rw [h]
@[simp] theorem lit_eq {a b : String} : (Str.ofString a = Str.ofString b) = (a = b) := propext ofString_inj
@[simp] theorem lit_beq {a b : String} : (Str.ofString a == Str.ofString b) = (a == b) := by
  rw [Bool.eq_iff_iff]; simp

/-! ### results -/
@[simp] theorem Res.bind_ok {α β : Type} (a : α) (m : M) (f : α → M → Res β) : (Res.ok a m).bind f = f a m := eqI rfl
@[simp] theorem Res.bind_exc {α β : Type} (c : Nat) (fs : List (Nat × W)) (m : M) (f : α → M → Res β) : (Res.exc c fs m : Res α).bind f = .exc c fs m := eqI rfl
@[simp] theorem Res.bind_stuck {α β : Type} (f : α → M → Res β) : (Res.stuck : Res α).bind f = .stuck := eqI rfl
theorem Res.bind_ite {α β : Type} (c : Prop) [Decidable c] (a b : Res α) (f : α → M → Res β) : (if c then a else b).bind f = if c then a.bind f else b.bind f := by split <;> rfl
def SR.andThen (x : SR) (k : Sl → M → SR) : SR := match x with
  | .nx σ m => k σ m
  | y => y
@[simp] theorem SR.andThen_nx (σ : Sl) (m : M) (k : Sl → M → SR) : (SR.nx σ m).andThen k = k σ m := eqI rfl
@[simp] theorem SR.andThen_rt (w : W) (m : M) (k : Sl → M → SR) : (SR.rt w m).andThen k = .rt w m := eqI rfl
@[simp] theorem SR.andThen_bk (σ : Sl) (m : M) (k : Sl → M → SR) : (SR.bk σ m).andThen k = .bk σ m := eqI rfl
@[simp] theorem SR.andThen_ex (σ : Sl) (c : Nat) (fs : List (Nat × W)) (m : M) (k : Sl → M → SR) : (SR.ex σ c fs m).andThen k = .ex σ c fs m := eqI rfl
@[simp] theorem SR.andThen_ite (c : Prop) [Decidable c] (a b : SR) (k : Sl → M → SR) : (if c then a else b).andThen k = if c then a.andThen k else b.andThen k := by split <;> rfl
@[simp] theorem sSeq_eq (r s : Sl → M → SR) (σ : Sl) (m : M) : sSeq r s σ m = (r σ m).andThen s := by
  unfold sSeq SR.andThen; cases r σ m <;> rfl
@[simp] theorem thenS_ok {α : Type} (σ : Sl) (a : α) (m : M) (f : α → M → SR) : thenS σ (.ok a m) f = f a m := eqI rfl
@[simp] theorem thenS_exc {α : Type} (σ : Sl) (c : Nat) (fs : List (Nat × W)) (m : M) (f : α → M → SR) : thenS σ (.exc c fs m : Res α) f = .ex σ c fs m := eqI rfl
theorem thenS_ite {α : Type} (σ : Sl) (c : Prop) [Decidable c] (a b : Res α) (f : α → M → SR) : thenS σ (if c then a else b) f = if c then thenS σ a f else thenS σ b f := by split <;> rfl
@[simp] theorem asRes_nx (σ : Sl) (m : M) : asRes (.nx σ m) = .ok .non m := eqI rfl
@[simp] theorem asRes_rt (w : W) (m : M) : asRes (.rt w m) = .ok w m := eqI rfl
@[simp] theorem asRes_ex (σ : Sl) (c : Nat) (fs : List (Nat × W)) (m : M) : asRes (.ex σ c fs m) = .exc c fs m := eqI rfl
@[simp] theorem asRes_ite (c : Prop) [Decidable c] (a b : SR) : asRes (if c then a else b) = if c then asRes a else asRes b := by split <;> rfl

@[simp] theorem ite_ok {α : Type} (c : Prop) [Decidable c] (a b : α) (m : M) : (if c then Res.ok a m else Res.ok b m) = Res.ok (if c then a else b) m := by split <;> rfl
@[simp] theorem ite_bl (c : Prop) [Decidable c] (a b : Bool) : (if c then W.bl a else W.bl b) = W.bl (if c then a else b) := by split <;> rfl
@[simp] theorem ite_rt (c : Prop) [Decidable c] (a b : W) (m : M) : (if c then SR.rt a m else SR.rt b m) = SR.rt (if c then a else b) m := by split <;> rfl

/-! ### combinators -/
section
variable (σ : Sl) (m : M)
@[simp] theorem two_eq (ra rb : Sl → M → Res W) (sem : W → W → M → Res W) : two ra rb sem σ m = (ra σ m).bind fun x m1 => (rb σ m1).bind fun y m2 => sem x y m2 := eqI rfl
@[simp] theorem one_eq (ra : Sl → M → Res W) (sem : W → M → Res W) : one ra sem σ m = (ra σ m).bind sem := eqI rfl
@[simp] theorem eOlen_eq (tb : Nat → Option (List W → M → Res W)) (ra : Sl → M → Res W) : eOlen tb ra σ m = (ra σ m).bind fun x m1 => (ownSem tb x [] m1).bind asLen := eqI rfl
@[simp] theorem eOix_eq (tb : Nat → Option (List W → M → Res W)) (ra rb : Sl → M → Res W) : eOix tb ra rb σ m = (ra σ m).bind fun x m1 => (rb σ m1).bind fun y m2 => ownSem tb x [y] m2 := eqI rfl
@[simp] theorem eC_eq (w : W) : eC w σ m = .ok w m := eqI rfl
@[simp] theorem eNil_eq : eNil σ m = .ok [] m := eqI rfl
@[simp] theorem eCons_eq (ra : Sl → M → Res W) (rs : Sl → M → Res (List W)) : eCons ra rs σ m = (ra σ m).bind fun x m1 => (rs σ m1).bind fun xs m2 => .ok (x :: xs) m2 := eqI rfl
@[simp] theorem eTup_eq (rs : Sl → M → Res (List W)) : eTup rs σ m = (rs σ m).bind mkTup := eqI rfl
@[simp] theorem eLst_eq (frz : Bool) (rs : Sl → M → Res (List W)) : eLst frz rs σ m = (rs σ m).bind (mkLst frz) := eqI rfl
@[simp] theorem eCall_eq (sem : List W → M → Res W) (rs : Sl → M → Res (List W)) : eCall sem rs σ m = (rs σ m).bind sem := eqI rfl
@[simp] theorem tst_eq (r : Sl → M → Res W) : tst r σ m = (r σ m).bind asT := eqI rfl
@[simp] theorem tstB_eq (r : Sl → M → Res W) : tstB r σ m = (r σ m).bind asB := eqI rfl
@[simp] theorem bAnd_eq (r s : Sl → M → Res Bool) : bAnd r s σ m = (r σ m).bind fun b m1 => if b = true then s σ m1 else .ok false m1 := eqI rfl
@[simp] theorem bOr_eq (r s : Sl → M → Res Bool) : bOr r s σ m = (r σ m).bind fun b m1 => if b = true then .ok true m1 else s σ m1 := eqI rfl
@[simp] theorem bNot_eq (r : Sl → M → Res Bool) : bNot r σ m = (r σ m).bind fun b m1 => .ok (!b) m1 := eqI rfl
def andK (s : M → Res W) (w : W) (m : M) : Res W := match w with
  | .bl true => s m
  | .bl false => .ok (.bl false) m
  | _ => .stuck
def orK (s : M → Res W) (w : W) (m : M) : Res W := match w with
  | .bl true => .ok (.bl true) m
  | .bl false => s m
  | _ => .stuck
@[simp] theorem andK_bl (s : M → Res W) (b : Bool) (m : M) : andK s (.bl b) m = if b = true then s m else .ok (.bl false) m := by cases b <;> rfl
@[simp] theorem orK_bl (s : M → Res W) (b : Bool) (m : M) : orK s (.bl b) m = if b = true then .ok (.bl true) m else s m := by cases b <;> rfl
@[simp] theorem eAnd_eq (r s : Sl → M → Res W) : eAnd r s σ m = (r σ m).bind (andK (s σ)) := eqI rfl
@[simp] theorem eOr_eq (r s : Sl → M → Res W) : eOr r s σ m = (r σ m).bind (orK (s σ)) := eqI rfl
def notK (w : W) (m : M) : Res W := match w with
  | .bl b => .ok (.bl (!b)) m
  | _ => .stuck
@[simp] theorem notK_bl (b : Bool) (m : M) : notK (.bl b) m = .ok (.bl (!b)) m := eqI rfl
@[simp] theorem eNot_eq (r : Sl → M → Res W) : eNot r σ m = (r σ m).bind notK := eqI rfl
@[simp] theorem eIf_eq (c : Sl → M → Res Bool) (r s : Sl → M → Res W) : eIf c r s σ m = (c σ m).bind fun b m1 => if b = true then r σ m1 else s σ m1 := eqI rfl
def chK (o2 : COp) (y : W) (rc : M → Res W) (z : W) (m : M) : Res W := match z with
  | .bl true => (rc m).bind fun u m4 => cmpSem o2 y u m4
  | .bl false => .ok (.bl false) m
  | _ => .stuck
@[simp] theorem chK_bl (o2 : COp) (y : W) (rc : M → Res W) (b : Bool) (m : M) : chK o2 y rc (.bl b) m = if b = true then (rc m).bind fun u m4 => cmpSem o2 y u m4 else .ok (.bl false) m := by cases b <;> rfl
@[simp] theorem eChain_eq (o1 o2 : COp) (ra rb rc : Sl → M → Res W) : eChain o1 o2 ra rb rc σ m = (ra σ m).bind fun x m1 => (rb σ m1).bind fun y m2 => (cmpSem o1 x y m2).bind (chK o2 y (rc σ)) := eqI rfl
@[simp] theorem sNext_eq : sNext σ m = .nx σ m := eqI rfl
@[simp] theorem sRet_eq (r : Sl → M → Res W) : sRet r σ m = thenS σ (r σ m) fun w m1 => .rt w m1 := eqI rfl
@[simp] theorem sRetN_eq : sRetN σ m = .rt .non m := eqI rfl
@[simp] theorem sBreak_eq : sBreak σ m = .bk σ m := eqI rfl
@[simp] theorem sDrop_eq (r : Sl → M → Res W) : sDrop r σ m = thenS σ (r σ m) fun _ m1 => .nx σ m1 := eqI rfl
@[simp] theorem sIf_eq (b : Sl → M → Res Bool) (r s : Sl → M → SR) : sIf b r s σ m = thenS σ (b σ m) fun k m1 => if k = true then r σ m1 else s σ m1 := eqI rfl
def asgK (σ : Sl) (t : Tg) (w : W) (m : M) : SR := match tgSem t w σ with
  | some σ' => .nx σ' m
  | none => .stuck
@[simp] theorem sAsg_eq (t : Tg) (r : Sl → M → Res W) : sAsg t r σ m = thenS σ (r σ m) (asgK σ t) := eqI rfl
@[simp] theorem asgK_nm (i : Nat) (w : W) (m : M) : asgK σ (.nm i) w m = .nx (σ.set i (some w)) m := eqI rfl
@[simp] theorem srcVal_eq (r : Sl → M → Res W) : srcVal r σ m = (r σ m).bind srcOf := eqI rfl
@[simp] theorem srcArgs_eq (f : List W → M → Res Src) (rs : Sl → M → Res (List W)) : srcArgs f rs σ m = (rs σ m).bind f := eqI rfl
@[simp] theorem yes_eq : yes σ m = .ok true m := eqI rfl
@[simp] theorem eComp_eq (F : Nat) (frz : Bool) (src : Sl → M → Res Src) (p : Cp) : eComp F frz src p σ m = (src σ m).bind fun s m1 => (cpAll F p σ s m1).bind (mkLst frz) := eqI rfl
@[simp] theorem sFor_eq (F : Nat) (t : Tg) (src : Sl → M → Res Src) (b : Sl → M → SR) : sFor F t src b σ m = thenS σ (src σ m) fun s m1 => forAll F t b s σ m1 := eqI rfl
@[simp] theorem forAll_items (F : Nat) (t : Tg) (b : Sl → M → SR) (ws : List W) : forAll F t b (.items ws) σ m = forItems t b ws σ m := eqI rfl
@[simp] theorem cpAll_items (F : Nat) (p : Cp) (ws : List W) : cpAll F p σ (.items ws) m = cpItems p σ ws m := eqI rfl
end

/-! ### trees -/
def varK (o : Option (Option W)) (m : M) : Res W := match o with
  | some (some w) => .ok w m
  | _ => .stuck
@[simp] theorem varK_some (w : W) (m : M) : varK (some (some w)) m = .ok w m := eqI rfl
@[simp] theorem eVar_eq (i : Nat) (σ : Sl) (m : M) : eVar i σ m = varK σ[i]? m := by
  unfold eVar varK; rfl
section
variable (cl : Cl) (xn : Xn)
@[simp] theorem evE_var (i : Nat) : evE cl (.var i) = eVar i := by simp only [evE]
@[simp] theorem evE_non : evE cl .non = eC .non := by simp only [evE]
@[simp] theorem evE_tt : evE cl .tt = eC (.bl true) := by simp only [evE]
@[simp] theorem evE_ff : evE cl .ff = eC (.bl false) := by simp only [evE]
@[simp] theorem evE_ngi (i : Int) : evE cl (.ngi i) = eC (.int (-i)) := by simp only [evE]
@[simp] theorem evE_frz (a : E) : evE cl (.frz a) = one (evE cl a) frzSem := by simp only [evE]
@[simp] theorem evE_neg (a : E) : evE cl (.neg a) = one (evE cl a) negSem := by simp only [evE]
@[simp] theorem evE_olen (fi : Nat) (a : E) : evE cl (.olen fi a) = eOlen (ownTb cl fi) (evE cl a) := by simp only [evE]
@[simp] theorem evE_oix (fi : Nat) (a b : E) : evE cl (.oix fi a b) = eOix (ownTb cl fi) (evE cl a) (evE cl b) := by simp only [evE]
@[simp] theorem evE_int (i : Int) : evE cl (.int i) = eC (.int i) := by simp only [evE]
@[simp] theorem evE_str (x : Str) : evE cl (.str x) = eC (.str x) := by simp only [evE]
@[simp] theorem evE_glo (k : Nat) : evE cl (.glo k) = eGlo cl.gvs k := by simp only [evE]
@[simp] theorem evE_tup (es : Es) : evE cl (.tup es) = eTup (evEs cl es) := by simp only [evE]
@[simp] theorem evE_lst (frz : Bool) (es : Es) : evE cl (.lst frz es) = eLst frz (evEs cl es) := by simp only [evE]
@[simp] theorem evE_bin (op : BOp) (frz : Bool) (a b : E) : evE cl (.bin op frz a b) = two (evE cl a) (evE cl b) (binSem frz op) := by simp only [evE]
@[simp] theorem evE_cmp (op : COp) (a b : E) : evE cl (.cmp op a b) = two (evE cl a) (evE cl b) (cmpSem op) := by simp only [evE]
@[simp] theorem evE_chn (o1 o2 : COp) (a b c : E) : evE cl (.chn o1 o2 a b c) = eChain o1 o2 (evE cl a) (evE cl b) (evE cl c) := by simp only [evE]
@[simp] theorem evE_andL (es : Es) : evE cl (.andL es) = evAnd cl es := by simp only [evE]
@[simp] theorem evE_orL (es : Es) : evE cl (.orL es) = evOr cl es := by simp only [evE]
@[simp] theorem evE_not (a : E) : evE cl (.not a) = eNot (evE cl a) := by simp only [evE]
@[simp] theorem evE_ite (t : B) (a b : E) : evE cl (.ite t a b) = eIf (evB cl t) (evE cl a) (evE cl b) := by simp only [evE]
@[simp] theorem evE_bf (f : BF) (es : Es) : evE cl (.bf f es) = eCall (bfSem f) (evEs cl es) := by simp only [evE]
@[simp] theorem evE_bm (f : BM) (o : E) (es : Es) : evE cl (.bm f o es) = MP.meth f.ty (evE cl o) (evEs cl es) (bmSem f) := by simp only [evE]
@[simp] theorem evE_ix (a b : E) : evE cl (.ix a b) = two (evE cl a) (evE cl b) ixSem := by simp only [evE]
@[simp] theorem evE_sl (frz : Bool) (a : E) (lo hi : OE) : evE cl (.sl frz a lo hi) = eSl frz (evE cl a) (evO cl lo) (evO cl hi) := by simp only [evE]
@[simp] theorem evE_isa (a : E) (t : Ty) : evE cl (.isa a t) = one (evE cl a) (isaSem cl.g t) := by simp only [evE]
@[simp] theorem evE_fld (f : Nat) (o : E) : evE cl (.fld f o) = one (evE cl o) (fldSem cl.g f) := by simp only [evE]
@[simp] theorem evE_call (i : Nat) (es : Es) : evE cl (.call i es) = eCall (cl.c0 i) (evEs cl es) := by simp only [evE]
@[simp] theorem evE_meth (fi : Nat) (o : E) (es : Es) : evE cl (.meth fi o es) = eMeth (methTb cl fi) fi (evE cl o) (evEs cl es) := by simp only [evE]
@[simp] theorem evE_make (k : Nat) (es : Es) : evE cl (.make k es) = eMake cl k (evEs cl es) := by simp only [evE]
@[simp] theorem evE_comp (frz : Bool) (src : Ie) (tg : Tg) (own : List (Str × Nat)) (cs : Cs) (e : E) : evE cl (.comp frz src tg own cs e) = eComp cl.F frz (evI cl src) ⟨tg, evC cl cs, evE cl e, own.map (·.2)⟩ := by simp only [evE]
@[simp] theorem evE_dct0 (tk : Bool) : evE cl (.dct0 tk) = eDnew tk := by simp only [evE]
@[simp] theorem evE_dct1 (k v : E) : evE cl (.dct1 k v) = eD1 (evE cl k) (evE cl v) := by simp only [evE]
@[simp] theorem evE_kget (k : Nat) (es : Es) : evE cl (.kget k es) = eKget cl k (evEs cl es) := by simp only [evE]
@[simp] theorem evE_nset (a : E) : evE cl (.nset a) = one (evE cl a) nsetSem := by simp only [evE]
@[simp] theorem evE_comp2 (frz : Bool) (src : Ie) (tg : Tg) (own : List (Str × Nat)) (cs : Cs) (src1 : Ie) (tg1 : Tg) (own1 : List Nat) (cs1 : Cs) (e : E) : evE cl (.comp2 frz src tg own cs src1 tg1 own1 cs1 e) = eComp2 frz (evI cl src) ⟨tg, evC cl cs, evI cl src1, ⟨tg1, evC cl cs1, evE cl e, own1⟩, own.map (·.2)⟩ := by simp only [evE]
@[simp] theorem evEs_nil : evEs cl .nil = eNil := by simp only [evEs]
@[simp] theorem evEs_cons (e : E) (es : Es) : evEs cl (.cons e es) = eCons (evE cl e) (evEs cl es) := by simp only [evEs]
@[simp] theorem evO_no : evO cl .no = part none := by simp only [evO]
@[simp] theorem evO_so (e : E) : evO cl (.so e) = part (some (evE cl e)) := by simp only [evO]
@[simp] theorem evAnd_one (e : E) : evAnd cl (.cons e .nil) = evE cl e := by simp only [evAnd]
@[simp] theorem evAnd_two (e e2 : E) (es : Es) : evAnd cl (.cons e (.cons e2 es)) = eAnd (evE cl e) (evAnd cl (.cons e2 es)) := by simp only [evAnd]
@[simp] theorem evOr_one (e : E) : evOr cl (.cons e .nil) = evE cl e := by simp only [evOr]
@[simp] theorem evOr_two (e e2 : E) (es : Es) : evOr cl (.cons e (.cons e2 es)) = eOr (evE cl e) (evOr cl (.cons e2 es)) := by simp only [evOr]
@[simp] theorem evB_val (e : E) : evB cl (.val e) = tst (evE cl e) := by simp only [evB]
@[simp] theorem evB_cmp (op : COp) (a b : E) : evB cl (.cmp op a b) = tstB (two (evE cl a) (evE cl b) (cmpSem op)) := by simp only [evB]
@[simp] theorem evB_chn (o1 o2 : COp) (a b c : E) : evB cl (.chn o1 o2 a b c) = tstB (eChain o1 o2 (evE cl a) (evE cl b) (evE cl c)) := by simp only [evB]
@[simp] theorem evB_andL (bs : Bs) : evB cl (.andL bs) = evBand cl bs := by simp only [evB]
@[simp] theorem evB_orL (bs : Bs) : evB cl (.orL bs) = evBor cl bs := by simp only [evB]
@[simp] theorem evB_not (b : B) : evB cl (.not b) = bNot (evB cl b) := by simp only [evB]
@[simp] theorem evBand_one (e : B) : evBand cl (.cons e .nil) = evB cl e := by simp only [evBand]
@[simp] theorem evBand_two (e e2 : B) (es : Bs) : evBand cl (.cons e (.cons e2 es)) = bAnd (evB cl e) (evBand cl (.cons e2 es)) := by simp only [evBand]
@[simp] theorem evBor_one (e : B) : evBor cl (.cons e .nil) = evB cl e := by simp only [evBor]
@[simp] theorem evBor_two (e e2 : B) (es : Bs) : evBor cl (.cons e (.cons e2 es)) = bOr (evB cl e) (evBor cl (.cons e2 es)) := by simp only [evBor]
@[simp] theorem evI_val (e : E) : evI cl (.val e) = srcVal (evE cl e) := by simp only [evI]
@[simp] theorem evI_rng1 (es : Es) : evI cl (.rng1 es) = srcArgs srcR1 (evEs cl es) := by simp only [evI]
@[simp] theorem evI_rng2 (es : Es) : evI cl (.rng2 es) = srcArgs srcR2 (evEs cl es) := by simp only [evI]
@[simp] theorem evI_enm (es : Es) : evI cl (.enm es) = srcArgs srcEnum (evEs cl es) := by simp only [evI]
@[simp] theorem evC_all : evC cl .all = yes := by simp only [evC]
@[simp] theorem evC_one (b : B) : evC cl (.one b) = evB cl b := by simp only [evC]
@[simp] theorem evS_pass : evS cl xn .pass = sNext := by simp only [evS]
@[simp] theorem evS_ret (e : E) : evS cl xn (.ret e) = sRet (evE cl e) := by simp only [evS]
@[simp] theorem evS_retN : evS cl xn .retN = sRetN := by simp only [evS]
@[simp] theorem evS_brk : evS cl xn .brk = sBreak := by simp only [evS]
@[simp] theorem evS_expr (e : E) : evS cl xn (.expr e) = sDrop (evE cl e) := by simp only [evS]
@[simp] theorem evS_ife (b : B) (x y : Ss) : evS cl xn (.ife b x y) = sIf (evB cl b) (evSs cl xn x) (evSs cl xn y) := by simp only [evS]
@[simp] theorem evS_asg (tg : Tg) (e : E) : evS cl xn (.asg tg e) = sAsg tg (evE cl e) := by simp only [evS]
@[simp] theorem evS_asgC (i : Nat) (frz : Bool) (src : Ie) (tg : Tg) (own : List (Str × Nat)) (cs : Cs) (e : E) : evS cl xn (.asgC i frz src tg own cs e) = sAsg (.nm i) (eComp cl.F frz (evI cl src) ⟨tg, evC cl cs, evE cl e, own.map (·.2)⟩) := by simp only [evS]
@[simp] theorem evS_put (f : Nat) (o e : E) : evS cl xn (.put f o e) = sFldPut cl.g f (evE cl o) (evE cl e) := by simp only [evS]
@[simp] theorem evS_item (o j e : E) : evS cl xn (.item o j e) = sItemPut (evE cl o) (evE cl j) (evE cl e) := by simp only [evS]
@[simp] theorem evS_for (tg : Tg) (src : Ie) (x : Ss) : evS cl xn (.for_ tg src x) = sFor cl.F tg (evI cl src) (evSs cl xn x) := by simp only [evS]
@[simp] theorem evS_whl (b : B) (x : Ss) : evS cl xn (.whl b x) = whileL (evB cl b) (evSs cl xn x) cl.F := by simp only [evS]
@[simp] theorem evS_frzv (i : Nat) (s : S) : evS cl xn (.frzv i s) = sFrz i (evS cl xn s) := by simp only [evS]
@[simp] theorem evS_raise0 (k : Nat) : evS cl xn (.raise0 k) = sRaise0 xn k := by simp only [evS]
@[simp] theorem evS_raiseT (k : Nat) : evS cl xn (.raiseT k) = sRaise0 xn k := by simp only [evS]
@[simp] theorem evS_raiseF (k f : Nat) (e : E) : evS cl xn (.raiseF k f e) = sRaiseF xn k f (evE cl e) := by simp only [evS]
@[simp] theorem evS_tryAs (x : Ss) (k i : Nat) (hs : List HS) (σ : Sl) (m : M) : evS cl xn (.tryAs x k i hs) σ m = tryAsR xn k i hs (evSs cl xn x σ m) := by simp only [evS]
@[simp] theorem evS_tryO (x : Ss) (k : Nat) (hs : List HS) (σ : Sl) (m : M) : evS cl xn (.tryO x k hs) σ m = tryOR xn k hs (evSs cl xn x σ m) := by simp only [evS]
@[simp] theorem evSs_nil : evSs cl xn .nil = sNext := by simp only [evSs]
@[simp] theorem evSs_one (s : S) : evSs cl xn (.cons s .nil) = evS cl xn s := by simp only [evSs]
@[simp] theorem evSs_two (s s2 : S) (ss : Ss) : evSs cl xn (.cons s (.cons s2 ss)) = sSeq (evS cl xn s) (evSs cl xn (.cons s2 ss)) := by simp only [evSs]
end

/-! ### operations -/
@[simp] theorem asB_bl (b : Bool) (m : M) : asB (.bl b) m = .ok b m := eqI rfl
@[simp] theorem asT_bl (b : Bool) (m : M) : asT (.bl b) m = .ok b m := eqI rfl
@[simp] theorem mkTup_short (xs : List W) (m : M) (h : xs.length ≤ 1000) : mkTup xs m = .ok (.tup xs) m := by
  unfold mkTup; rw [if_pos (Nat.le_trans h (by rw [sizeLine_eq]; omega))]
@[simp] theorem mkLst_frz (xs : List W) (m : M) (h : xs.length ≤ 1000) : mkLst true xs m = .ok (.lst xs) m := by
  unfold mkLst; rw [if_pos (Nat.le_trans h (by rw [sizeLine_eq]; omega))]; rfl
@[simp] theorem mkLst_new (xs : List W) (m : M) (h : xs.length ≤ 1000) : mkLst false xs m = .ok (.ref m.length) (m ++ [some (.lst xs)]) := by
  unfold mkLst; rw [if_pos (Nat.le_trans h (by rw [sizeLine_eq]; omega))]; rfl
@[simp] theorem dat_non (m : M) (n : Nat) : dat m n .non = some .none := by cases n <;> rfl
@[simp] theorem dat_bl (m : M) (n : Nat) (b : Bool) : dat m n (.bl b) = some (.bool b) := by cases n <;> rfl
@[simp] theorem dat_int (m : M) (n : Nat) (b : Int) : dat m n (.int b) = some (.int b) := by cases n <;> rfl
@[simp] theorem dat_str (m : M) (n : Nat) (b : Str) : dat m n (.str b) = some (.str b) := by cases n <;> rfl
@[simp] theorem dat_strs (m : M) (n : Nat) (ss : List Str) : (ss.map W.str).mapM (dat m n) = some (ss.map PyData.str) := by
  induction ss with
  | nil => rfl
  | cons x xs ih => simp [ih]

/-! ### values that are plain data, and what may be asked of them -/
def isStrW : W → Bool
  | .str _ => true
  | _ => false
def isTupW : W → Bool
  | .tup _ => true
  | _ => false
def isLstW : W → Bool
  | .lst _ => true
  | .kl _ => true
  | _ => false
def isBlW : W → Bool
  | .bl _ => true
  | _ => false
def isIntW : W → Bool
  | .int _ => true
  | .bl _ => true
  | _ => false
/-- an opaque thing: a dict or an instance -/
def opq (m : M) (i : Nat) : Bool := match m[i]? with
  | some (some (.dK _)) => true
  | some (some (.dT _)) => true
  | _ => false
mutual
/-- data: all that is within it can be asked for its type -/
def Dat (m : M) : W → Bool
  | .non => true
  | .bl _ => true
  | .int _ => true
  | .str x => decide (x.length ≤ 100000)
  | .tup xs => Dats m xs
  | .lst xs => Dats m xs
  | .kl xs => Dats m xs
  | .ref i => opq m i
  | _ => false
def Dats (m : M) : List W → Bool
  | [] => true
  | x :: xs => Dat m x && Dats m xs
end
theorem Dats_iff {m : M} : ∀ {xs : List W}, Dats m xs = true ↔ ∀ x ∈ xs, Dat m x = true
  | [] => by simp [Dats]
  | x :: xs => by simp [Dats, Dats_iff (xs := xs)]
theorem opq_ty {m : M} {i : Nat} (h : opq m i = true) : tyW m (.ref i) = some .dic := by
  unfold opq at h
  simp only [tyW]
  split at h
  · rename_i e; rw [e]
  · rename_i e; rw [e]
  · cases h
/-- what is known of the built-in types -/
structure IsaB (g : Cn) : Prop where
  str : g.isa .non .str = some false ∧ g.isa .bl .str = some false ∧ g.isa .int .str = some false ∧ g.isa .str .str = some true ∧ g.isa .lst .str = some false ∧ g.isa .tup .str = some false ∧ g.isa .dic .str = some false
  tup : g.isa .non .tup = some false ∧ g.isa .bl .tup = some false ∧ g.isa .int .tup = some false ∧ g.isa .str .tup = some false ∧ g.isa .lst .tup = some false ∧ g.isa .tup .tup = some true ∧ g.isa .dic .tup = some false
  lst : g.isa .non .lst = some false ∧ g.isa .bl .lst = some false ∧ g.isa .int .lst = some false ∧ g.isa .str .lst = some false ∧ g.isa .lst .lst = some true ∧ g.isa .tup .lst = some false ∧ g.isa .dic .lst = some false
  bl : g.isa .non .bl = some false ∧ g.isa .bl .bl = some true ∧ g.isa .int .bl = some false ∧ g.isa .str .bl = some false ∧ g.isa .lst .bl = some false ∧ g.isa .tup .bl = some false ∧ g.isa .dic .bl = some false
  int : g.isa .non .int = some false ∧ g.isa .bl .int = some true ∧ g.isa .int .int = some true ∧ g.isa .str .int = some false ∧ g.isa .lst .int = some false ∧ g.isa .tup .int = some false ∧ g.isa .dic .int = some false
section
variable {g : Cn} (G : IsaB g) {m : M} {w : W} (h : Dat m w = true)
include G h
theorem isa_str : isaSem g .str w m = .ok (.bl (isStrW w)) m := by
  obtain ⟨a1, a2, a3, a4, a5, a6, a7⟩ := G.str
  cases w <;> first | (simp [isaSem, tyW, isStrW, *]; done) | (simp [isaSem, opq_ty (by simpa [Dat] using h), isStrW, *]; done) | (simp [Dat] at h; done)
theorem isa_tup : isaSem g .tup w m = .ok (.bl (isTupW w)) m := by
  obtain ⟨a1, a2, a3, a4, a5, a6, a7⟩ := G.tup
  cases w <;> first | (simp [isaSem, tyW, isTupW, *]; done) | (simp [isaSem, opq_ty (by simpa [Dat] using h), isTupW, *]; done) | (simp [Dat] at h; done)
theorem isa_lst : isaSem g .lst w m = .ok (.bl (isLstW w)) m := by
  obtain ⟨a1, a2, a3, a4, a5, a6, a7⟩ := G.lst
  cases w <;> first | (simp [isaSem, tyW, isLstW, *]; done) | (simp [isaSem, opq_ty (by simpa [Dat] using h), isLstW, *]; done) | (simp [Dat] at h; done)
theorem isa_bl : isaSem g .bl w m = .ok (.bl (isBlW w)) m := by
  obtain ⟨a1, a2, a3, a4, a5, a6, a7⟩ := G.bl
  cases w <;> first | (simp [isaSem, tyW, isBlW, *]; done) | (simp [isaSem, opq_ty (by simpa [Dat] using h), isBlW, *]; done) | (simp [Dat] at h; done)
theorem isa_int : isaSem g .int w m = .ok (.bl (isIntW w)) m := by
  obtain ⟨a1, a2, a3, a4, a5, a6, a7⟩ := G.int
  cases w <;> first | (simp [isaSem, tyW, isIntW, *]; done) | (simp [isaSem, opq_ty (by simpa [Dat] using h), isIntW, *]; done) | (simp [Dat] at h; done)
end

/-! ### pure comprehensions -/
theorem cpItems_map {p : Cp} {σ : Sl} {m : M} {g : W → W} : ∀ {ws : List W}, (∀ w ∈ ws, cpTurn p σ w m = .ok (some (g w)) m) → cpItems p σ ws m = .ok (ws.map g) m
  | [], _ => rfl
  | w :: ws, h => by
    have e := h w (List.mem_cons_self ..)
    have ih := cpItems_map (ws := ws) fun x hx => h x (List.mem_cons_of_mem _ hx)
    simp [cpItems, e, ih]
theorem cpTurn_all {p : Cp} {σ : Sl} {w : W} {m : M} {i : Nat} (ht : p.tg = .nm i) (hc : p.cond = yes) : cpTurn p σ w m = (calm (p.elt ((wipeW σ p.vs).set i (some w)) m)).bind fun x m2 => .ok (some x) m2 := by
  unfold cpTurn
  rw [ht, hc]
  rfl
@[simp] theorem calm_ok1 {α : Type} (a : α) (m : M) : calm (.ok a m) = .ok a m := eqI rfl
theorem mapM_bl {α : Type} (g : α → Bool) : ∀ xs : List α, (xs.map fun x => W.bl (g x)).mapM isBl = some (xs.map g)
  | [] => rfl
  | x :: xs => by
    rw [List.map_cons, List.mapM_cons, mapM_bl g xs]
    rfl
theorem all_map {α : Type} (g : α → Bool) (xs : List α) (m : M) : allSem false (.lst (xs.map fun x => W.bl (g x))) m = .ok (.bl (xs.all g)) m := by
  unfold allSem
  simp only [rdL]
  rw [mapM_bl]
  simp [List.all_map]
theorem any_map {α : Type} (g : α → Bool) (xs : List α) (m : M) : allSem true (.lst (xs.map fun x => W.bl (g x))) m = .ok (.bl (xs.any g)) m := by
  unfold allSem
  simp only [rdL]
  rw [mapM_bl]
  simp [List.any_map]

/-! ### membership -/
/-- x is one of the texts -/
def memS (ss : List Str) (x : Str) : Bool := ss.any (· == x)
theorem any_str (ss : List Str) (x : Str) : ((ss.map PyData.str).any fun z => PyData.eqv z (.str x)) = memS ss x := by
  induction ss with
  | nil => rfl
  | cons s ss ih =>
    rw [List.map_cons, List.any_cons, ih]
    simp [PyData.eqv, memS]
theorem in_kt (neg : Bool) (x : Str) (ss : List Str) (m : M) : inSem neg (.str x) (.kt (ss.map W.str)) m = .ok (.bl (memS ss x != neg)) m := by
  unfold inSem
  simp only [rdL, rdT, dat_str, dat_strs, any_str]
theorem in_tup (neg : Bool) (x : Str) (ss : List Str) (m : M) : inSem neg (.str x) (.tup (ss.map W.str)) m = .ok (.bl (memS ss x != neg)) m := by
  unfold inSem
  simp only [rdL, rdT, dat_str, dat_strs, any_str]
theorem in_lst (neg : Bool) (x : Str) (ss : List Str) (m : M) : inSem neg (.str x) (.lst (ss.map W.str)) m = .ok (.bl (memS ss x != neg)) m := by
  unfold inSem
  simp only [rdL, dat_str, dat_strs, any_str]
@[simp] theorem eq_str (neg : Bool) (x y : Str) (m : M) : eqSem neg (.str x) (.str y) m = .ok (.bl ((x == y) != neg)) m := by
  unfold eqSem
  simp [isDictW, PyData.eqv]
@[simp] theorem eq_int (neg : Bool) (x y : Int) (m : M) : eqSem neg (.int x) (.int y) m = .ok (.bl ((x == y) != neg)) m := by
  unfold eqSem
  simp [isDictW, PyData.eqv]
@[simp] theorem cmp_eq (a b : W) (m : M) : cmpSem .eq a b m = eqSem false a b m := eqI rfl
@[simp] theorem cmp_ne (a b : W) (m : M) : cmpSem .ne a b m = eqSem true a b m := eqI rfl
@[simp] theorem cmp_mem (a b : W) (m : M) : cmpSem .mem a b m = inSem false a b m := eqI rfl
@[simp] theorem cmp_nmem (a b : W) (m : M) : cmpSem .nmem a b m = inSem true a b m := eqI rfl
@[simp] theorem cmp_is (a b : W) (m : M) : cmpSem .is a b m = isSem false a b m := eqI rfl
@[simp] theorem cmp_nis (a b : W) (m : M) : cmpSem .nis a b m = isSem true a b m := eqI rfl
@[simp] theorem cmp_lt (i j : Int) (m : M) : cmpSem .lt (.int i) (.int j) m = .ok (.bl (decide (i < j))) m := eqI rfl
@[simp] theorem cmp_le (i j : Int) (m : M) : cmpSem .le (.int i) (.int j) m = .ok (.bl (decide (i ≤ j))) m := eqI rfl
@[simp] theorem cmp_gt (i j : Int) (m : M) : cmpSem .gt (.int i) (.int j) m = .ok (.bl (decide (j < i))) m := eqI rfl
@[simp] theorem cmp_ge (i j : Int) (m : M) : cmpSem .ge (.int i) (.int j) m = .ok (.bl (decide (j ≤ i))) m := eqI rfl
@[simp] theorem is_non (neg : Bool) (a : W) (m : M) : isSem neg a .non m = .ok (.bl (isNon a != neg)) m := eqI rfl
@[simp] theorem isNon_str (x : Str) : isNon (.str x) = false := eqI rfl
/-- the signs of a text, asked one by one -/
theorem str_in1 (c : Nat) (z : Str) : strIn ⟨#[c]⟩ z = decide (c ∈ z.cps.toList) := rfl
@[simp] theorem in_str (neg : Bool) (x z : Str) (m : M) : inSem neg (.str x) (.str z) m = .ok (.bl (strIn x z != neg)) m := eqI rfl
@[simp] theorem srcOf_str (z : Str) (m : M) : srcOf (.str z) m = .ok (.items (signs z)) m := eqI rfl
@[simp] theorem srcOf_lst (z : List W) (m : M) : srcOf (.lst z) m = .ok (.items z) m := eqI rfl
@[simp] theorem srcOf_kl (z : List W) (m : M) : srcOf (.kl z) m = .ok (.items z) m := eqI rfl
@[simp] theorem srcOf_tup (z : List W) (m : M) : srcOf (.tup z) m = .ok (.items z) m := eqI rfl
@[simp] theorem len_lst (xs : List W) (m : M) : lenSem (.lst xs) m = .ok (.int xs.length) m := eqI rfl
@[simp] theorem len_kl (xs : List W) (m : M) : lenSem (.kl xs) m = .ok (.int xs.length) m := eqI rfl
@[simp] theorem len_tup (xs : List W) (m : M) : lenSem (.tup xs) m = .ok (.int xs.length) m := eqI rfl
@[simp] theorem bf_len (a : W) (m : M) : bfSem .len [a] m = lenSem a m := eqI rfl
@[simp] theorem bf_all (a : W) (m : M) : bfSem .all [a] m = allSem false a m := eqI rfl
@[simp] theorem bf_any (a : W) (m : M) : bfSem .any [a] m = allSem true a m := eqI rfl
@[simp] theorem bf_int (a : W) (m : M) : bfSem .int [a] m = intSem a m := eqI rfl
@[simp] theorem bf_list (frz : Bool) (a : W) (m : M) : bfSem (.list frz) [a] m = listSem frz a m := eqI rfl
@[simp] theorem bf_tuple (a : W) (m : M) : bfSem .tuple [a] m = tupleSem a m := eqI rfl
@[simp] theorem neg_int (i : Int) (m : M) : negSem (.int i) m = .ok (.int (-i)) m := eqI rfl
@[simp] theorem int_int (i : Int) (m : M) : intSem (.int i) m = .ok (.int i) m := eqI rfl
@[simp] theorem int_bl (b : Bool) (m : M) : intSem (.bl b) m = .ok (.int (if b then 1 else 0)) m := eqI rfl
@[simp] theorem add_int (frz : Bool) (i j : Int) (m : M) : binSem frz .add (.int i) (.int j) m = .ok (.int (i + j)) m := eqI rfl
@[simp] theorem sub_int (frz : Bool) (i j : Int) (m : M) : binSem frz .sub (.int i) (.int j) m = .ok (.int (i - j)) m := eqI rfl
theorem len_str {x : Str} {m : M} (h : Dat m (.str x) = true) : lenSem (.str x) m = .ok (.int x.length) m := by
  have h : x.length ≤ 100000 := by simpa [Dat] using h
  unfold lenSem
  simp only
  rw [if_pos (Nat.le_trans h (by rw [sizeLine_eq]; omega))]
/-- [f(sign) for sign in text] -/
theorem cpItems_signs {p : Cp} {σ : Sl} {m : M} {i : Nat} {z : Str} {g : Nat → W} (ht : p.tg = .nm i) (hc : p.cond = yes) (h : ∀ c ∈ z.cps.toList, p.elt ((wipeW σ p.vs).set i (some (.str ⟨#[c]⟩))) m = .ok (g c) m) : cpItems p σ (signs z) m = .ok (z.cps.toList.map g) m := by
  have key : ∀ l : List Nat, (∀ c ∈ l, p.elt ((wipeW σ p.vs).set i (some (.str ⟨#[c]⟩))) m = .ok (g c) m) → cpItems p σ (l.map fun c => .str ⟨#[c]⟩) m = .ok (l.map g) m := by
    intro l
    induction l with
    | nil => intro _; rfl
    | cons c l ih =>
      intro hh
      have e1 := hh c (List.mem_cons_self ..)
      have e2 := ih fun x hx => hh x (List.mem_cons_of_mem _ hx)
      simp [cpItems, cpTurn_all ht hc, e1, e2]
  exact key _ h
/-- [f(x) for x in xs] -/
theorem cpItems_each {p : Cp} {σ : Sl} {m : M} {i : Nat} {g : W → W} {ws : List W} (ht : p.tg = .nm i) (hc : p.cond = yes) (h : ∀ w ∈ ws, p.elt ((wipeW σ p.vs).set i (some w)) m = .ok (g w) m) : cpItems p σ ws m = .ok (ws.map g) m :=
  cpItems_map fun w hw => by rw [cpTurn_all ht hc, h w hw]; rfl
theorem mkLst_big {xs : List W} {m : M} (h : xs.length ≤ 100000) : mkLst true xs m = .ok (.lst xs) m := by
  unfold mkLst; rw [if_pos (Nat.le_trans h (by rw [sizeLine_eq]; omega))]; rfl
/-! ### subscripts -/
theorem atI_nat {α : Type} (xs : List α) (k : Nat) : atI xs (k : Int) = xs[k]? := by
  unfold atI ixN
  rw [if_pos (by omega)]
  by_cases h : k < xs.length
  · simp [h]
  · simp [h]
@[simp] theorem atI_0 {α : Type} (xs : List α) : atI xs 0 = xs[0]? := atI_nat xs 0
@[simp] theorem atI_1 {α : Type} (xs : List α) : atI xs 1 = xs[1]? := atI_nat xs 1
@[simp] theorem atI_2 {α : Type} (xs : List α) : atI xs 2 = xs[2]? := atI_nat xs 2
@[simp] theorem atI_3 {α : Type} (xs : List α) : atI xs 3 = xs[3]? := atI_nat xs 3
@[simp] theorem atI_4 {α : Type} (xs : List α) : atI xs 4 = xs[4]? := atI_nat xs 4
@[simp] theorem atI_5 {α : Type} (xs : List α) : atI xs 5 = xs[5]? := atI_nat xs 5
@[simp] theorem atI_6 {α : Type} (xs : List α) : atI xs 6 = xs[6]? := atI_nat xs 6
def itemK (o : Option W) (m : M) : Res W := match o with
  | some w => .ok w m
  | none => .stuck
@[simp] theorem itemK_some (w : W) (m : M) : itemK (some w) m = .ok w m := eqI rfl
@[simp] theorem ix_tup (xs : List W) (i : Int) (m : M) : ixSem (.tup xs) (.int i) m = itemK (atI xs i) m := by
  unfold ixSem itemK seqOf; simp only [rdL, rdT]; try rfl
@[simp] theorem ix_kt (xs : List W) (i : Int) (m : M) : ixSem (.kt xs) (.int i) m = itemK (atI xs i) m := by
  unfold ixSem itemK seqOf; simp only [rdL, rdT]; try rfl
@[simp] theorem ix_lst (xs : List W) (i : Int) (m : M) : ixSem (.lst xs) (.int i) m = itemK (atI xs i) m := by
  unfold ixSem itemK seqOf; simp only [rdL]; try rfl
@[simp] theorem ix_kl (xs : List W) (i : Int) (m : M) : ixSem (.kl xs) (.int i) m = itemK (atI xs i) m := by
  unfold ixSem itemK seqOf; simp only [rdL]; try rfl
/-! ### loops that look at each item, and leave at the first fault -/
theorem for_check {i : Nat} {b : Sl → M → SR} {f : W → Bool} {v : W} {m : M} {P : Sl → Prop} (hP : ∀ σ w, P σ → P (σ.set i (some w))) :
    ∀ {ws : List W}, (∀ w ∈ ws, ∀ σ, P σ → b (σ.set i (some w)) m = if f w = true then .nx (σ.set i (some w)) m else .rt v m) → ∀ σ, P σ → ∃ σ', P σ' ∧ (ws.all f = true → forItems (.nm i) b ws σ m = .nx σ' m) ∧ (ws.all f = false → forItems (.nm i) b ws σ m = .rt v m)
  | [], _, σ, p => ⟨σ, p, by simp [forItems], by simp⟩
  | w :: ws, h, σ, p => by
    have e := h w (List.mem_cons_self ..) σ p
    obtain ⟨σ', p', e1, e2⟩ := for_check hP (ws := ws) (fun x hx => h x (List.mem_cons_of_mem _ hx)) (σ.set i (some w)) (hP σ w p)
    refine ⟨σ', p', fun ha => ?_, fun ha => ?_⟩
    · rw [List.all_cons, Bool.and_eq_true] at ha
      simp only [forItems, tgSem]
      rw [e, if_pos ha.1]
      exact e1 ha.2
    · rw [List.all_cons] at ha
      simp only [forItems, tgSem]
      rw [e]
      cases hf : f w with
      | true =>
        rw [hf, Bool.true_and] at ha
        exact e2 ha
      | false => rfl
/-- the same over enumerate -/
theorem for_checkE {i j : Nat} {b : Sl → M → SR} {f : Nat → W → Bool} {v : W} {m : M} {P : Sl → Prop} (hP : ∀ σ k w, P σ → P ((σ.set i (some (.int (k : Nat)))).set j (some w))) :
    ∀ {ws : List W} {k : Nat}, (∀ q w, ws[q]? = some w → ∀ σ, P σ → b ((σ.set i (some (.int (k + q : Nat)))).set j (some w)) m = if f (k + q) w = true then .nx ((σ.set i (some (.int (k + q : Nat)))).set j (some w)) m else .rt v m) →
      ∀ σ, P σ → ∃ σ', P σ' ∧ (((ws.zipIdx k).all fun p => f p.2 p.1) = true → forItems (.tp [i, j]) b ((ws.zipIdx k).map fun p => .tup [.int (p.2 : Nat), p.1]) σ m = .nx σ' m) ∧ (((ws.zipIdx k).all fun p => f p.2 p.1) = false → forItems (.tp [i, j]) b ((ws.zipIdx k).map fun p => .tup [.int (p.2 : Nat), p.1]) σ m = .rt v m)
  | [], _, _, σ, p => ⟨σ, p, by simp [forItems], by simp⟩
  | w :: ws, k, h, σ, p => by
    have e := h 0 w rfl σ p
    rw [Nat.add_zero] at e
    obtain ⟨σ', p', e1, e2⟩ := for_checkE hP (ws := ws) (k := k + 1) (fun q x hx => by
      have := h (q + 1) x (by simpa using hx)
      rw [show k + (q + 1) = k + 1 + q by omega] at this
      exact this) ((σ.set i (some (.int (k : Nat)))).set j (some w)) (hP σ k w p)
    refine ⟨σ', p', fun ha => ?_, fun ha => ?_⟩
    · rw [List.zipIdx_cons, List.all_cons, Bool.and_eq_true] at ha
      simp only [List.zipIdx_cons, List.map_cons, forItems, tgSem, setAll]
      rw [e, if_pos ha.1]
      exact e1 ha.2
    · rw [List.zipIdx_cons, List.all_cons] at ha
      simp only [List.zipIdx_cons, List.map_cons, forItems, tgSem, setAll]
      rw [e]
      cases hf : f k w with
      | true =>
        rw [hf, Bool.true_and] at ha
        exact e2 ha
      | false => rfl
/-- the items of a list that is not a thing -/
def lstW : W → Option (List W)
  | .lst xs => some xs
  | .kl xs => some xs
  | _ => none
theorem isLst_cases {w : W} (h : isLstW w = true) : ∃ xs, lstW w = some xs ∧ (w = .lst xs ∨ w = .kl xs) := by
  cases w <;> simp [isLstW, lstW] at h ⊢
theorem Dat_lstW {m : M} {w : W} {xs : List W} (h : Dat m w = true) (e : lstW w = some xs) : Dats m xs = true := by
  cases w <;> simp [lstW] at e <;> (subst e; simpa [Dat] using h)
theorem len_L {m : M} {w : W} {xs : List W} (e : lstW w = some xs) : lenSem w m = .ok (.int xs.length) m := by
  cases w <;> simp [lstW] at e <;> (subst e; rfl)
theorem src_L {m : M} {w : W} {xs : List W} (e : lstW w = some xs) : srcOf w m = .ok (.items xs) m := by
  cases w <;> simp [lstW] at e <;> (subst e; rfl)
theorem isLst_L {w : W} {xs : List W} (e : lstW w = some xs) : isLstW w = true := by
  cases w <;> simp [lstW] at e <;> rfl
theorem isLst_no {w : W} (e : lstW w = none) : isLstW w = false := by
  cases w <;> simp [lstW] at e <;> rfl
/-- all and any, not to be taken apart by simp -/
def allB (g : W → Bool) (xs : List W) : Bool := xs.all g
def anyB (g : W → Bool) (xs : List W) : Bool := xs.any g
theorem allB_iff {g : W → Bool} {xs : List W} : allB g xs = true ↔ ∀ x ∈ xs, g x = true := by simp [allB]
theorem anyB_iff {g : W → Bool} {xs : List W} : anyB g xs = true ↔ ∃ x ∈ xs, g x = true := by simp [anyB]
@[simp] theorem allB_nil (g : W → Bool) : allB g [] = true := eqI rfl
@[simp] theorem allB_cons (g : W → Bool) (x : W) (xs : List W) : allB g (x :: xs) = (g x && allB g xs) := eqI rfl
@[simp] theorem anyB_nil (g : W → Bool) : anyB g [] = false := eqI rfl
@[simp] theorem anyB_cons (g : W → Bool) (x : W) (xs : List W) : anyB g (x :: xs) = (g x || anyB g xs) := eqI rfl
theorem all_map' (g : W → Bool) (xs : List W) (m : M) : allSem false (.lst (xs.map fun x => W.bl (g x))) m = .ok (.bl (allB g xs)) m := all_map g xs m
theorem any_map' (g : W → Bool) (xs : List W) (m : M) : allSem true (.lst (xs.map fun x => W.bl (g x))) m = .ok (.bl (anyB g xs)) m := any_map g xs m
theorem for_run {i : Nat} {b : Sl → M → SR} {m : M} {ws : List W} {σ : Sl} {R : SR} (hR : forItems (.nm i) b ws σ m = R) (f : W → Bool) (P : Sl → Prop) (v : W) (hP : ∀ σ w, P σ → P (σ.set i (some w))) (hσ : P σ)
    (hb : ∀ w ∈ ws, ∀ σ, P σ → b (σ.set i (some w)) m = if f w = true then .nx (σ.set i (some w)) m else .rt v m) : (allB f ws = true ∧ ∃ σ', P σ' ∧ R = .nx σ' m) ∨ (allB f ws = false ∧ R = .rt v m) := by
  subst hR
  obtain ⟨σ', p', e1, e2⟩ := for_check hP hb σ hσ
  cases ha : allB f ws with
  | true => exact .inl ⟨rfl, σ', p', e1 ha⟩
  | false => exact .inr ⟨rfl, e2 ha⟩
theorem for_runE {i j : Nat} {b : Sl → M → SR} {m : M} {ws : List W} {σ : Sl} {R : SR} (hR : forItems (.tp [i, j]) b (pairs ws) σ m = R) (f : Nat → W → Bool) (P : Sl → Prop) (v : W) (hP : ∀ σ k w, P σ → P ((σ.set i (some (.int (k : Nat)))).set j (some w))) (hσ : P σ)
    (hb : ∀ q w, ws[q]? = some w → ∀ σ, P σ → b ((σ.set i (some (.int (q : Nat)))).set j (some w)) m = if f q w = true then .nx ((σ.set i (some (.int (q : Nat)))).set j (some w)) m else .rt v m) :
    ((ws.zipIdx.all fun p => f p.2 p.1) = true ∧ ∃ σ', P σ' ∧ R = .nx σ' m) ∨ ((ws.zipIdx.all fun p => f p.2 p.1) = false ∧ R = .rt v m) := by
  subst hR
  obtain ⟨σ', p', e1, e2⟩ := for_checkE (k := 0) (f := f) (v := v) (m := m) (b := b) hP (fun q w h σ p => by rw [Nat.zero_add]; exact hb q w h σ p) σ hσ
  cases ha : (ws.zipIdx.all fun p => f p.2 p.1) with
  | true => exact .inl ⟨rfl, σ', p', e1 ha⟩
  | false => exact .inr ⟨rfl, e2 ha⟩
@[simp] theorem in_tup1 (neg : Bool) (x a : Str) (m : M) : inSem neg (.str x) (.tup [.str a]) m = .ok (.bl (memS [a] x != neg)) m := in_tup neg x [a] m
@[simp] theorem in_tup2 (neg : Bool) (x a b : Str) (m : M) : inSem neg (.str x) (.tup [.str a, .str b]) m = .ok (.bl (memS [a, b] x != neg)) m := in_tup neg x [a, b] m
@[simp] theorem in_tup3 (neg : Bool) (x a b c : Str) (m : M) : inSem neg (.str x) (.tup [.str a, .str b, .str c]) m = .ok (.bl (memS [a, b, c] x != neg)) m := in_tup neg x [a, b, c] m
@[simp] theorem in_tup4 (neg : Bool) (x a b c d : Str) (m : M) : inSem neg (.str x) (.tup [.str a, .str b, .str c, .str d]) m = .ok (.bl (memS [a, b, c, d] x != neg)) m := in_tup neg x [a, b, c, d] m
@[simp] theorem in_tup5 (neg : Bool) (x a b c d e : Str) (m : M) : inSem neg (.str x) (.tup [.str a, .str b, .str c, .str d, .str e]) m = .ok (.bl (memS [a, b, c, d, e] x != neg)) m := in_tup neg x [a, b, c, d, e] m
@[simp] theorem in_tup6 (neg : Bool) (x a b c d e f : Str) (m : M) : inSem neg (.str x) (.tup [.str a, .str b, .str c, .str d, .str e, .str f]) m = .ok (.bl (memS [a, b, c, d, e, f] x != neg)) m := in_tup neg x [a, b, c, d, e, f] m
@[simp] theorem in_tup7 (neg : Bool) (x a b c d e f g : Str) (m : M) : inSem neg (.str x) (.tup [.str a, .str b, .str c, .str d, .str e, .str f, .str g]) m = .ok (.bl (memS [a, b, c, d, e, f, g] x != neg)) m := in_tup neg x [a, b, c, d, e, f, g] m
/-! ### data in another memory -/
mutual
theorem Dat.mono {m m' : M} (h : ∀ i, opq m i = true → opq m' i = true) : ∀ {w : W}, Dat m w = true → Dat m' w = true
  | .non, _ => rfl
  | .bl _, _ => rfl
  | .int _, _ => rfl
  | .str _, e => by simpa [Dat] using e
  | .tup xs, e => by simp only [Dat] at e ⊢; exact Dats.mono h e
  | .lst xs, e => by simp only [Dat] at e ⊢; exact Dats.mono h e
  | .kl xs, e => by simp only [Dat] at e ⊢; exact Dats.mono h e
  | .ref i, e => by simp only [Dat] at e ⊢; exact h i e
  | .fn _, e => by simp [Dat] at e
  | .kt _, e => by simp [Dat] at e
  | .kd _, e => by simp [Dat] at e
theorem Dats.mono {m m' : M} (h : ∀ i, opq m i = true → opq m' i = true) : ∀ {xs : List W}, Dats m xs = true → Dats m' xs = true
  | [], _ => rfl
  | x :: xs, e => by
    simp only [Dats, Bool.and_eq_true] at e ⊢
    exact ⟨Dat.mono h e.1, Dats.mono h e.2⟩
end
theorem opq_app {m : M} (x : M) (i : Nat) (h : opq m i = true) : opq (m ++ x) i = true := by
  unfold opq at h ⊢
  by_cases hi : i < m.length
  · rw [List.getElem?_append_left hi]; exact h
  · rw [List.getElem?_eq_none (by omega)] at h
    cases h
theorem Dat.app {m : M} (x : M) {w : W} (h : Dat m w = true) : Dat (m ++ x) w = true := Dat.mono (opq_app x) h
theorem Dats.app {m : M} (x : M) {xs : List W} (h : Dats m xs = true) : Dats (m ++ x) xs = true := Dats.mono (opq_app x) h

/-! ### loops with a state -/
def runF {S : Type} (step : S → W → Option S) : S → List W → Bool × S
  | s, [] => (true, s)
  | s, x :: xs => match step s x with
    | some s' => runF step s' xs
    | none => (false, s)
theorem for_fold0 {S : Type} {i : Nat} {b : Sl → M → SR} (step : S → W → Option S) (Inv : Nat → S → Sl → M → Prop) (Ex : S → SR → Prop) :
    ∀ {ws : List W} {k0 : Nat} {m : M} {σ : Sl} {R : SR} {s : S}, forItems (.nm i) b ws σ m = R → Inv k0 s σ m →
      (∀ k s w σ m, k0 ≤ k → ws[k - k0]? = some w → Inv k s σ m → (∃ s' σ' m', step s w = some s' ∧ b (σ.set i (some w)) m = .nx σ' m' ∧ Inv (k + 1) s' σ' m') ∨ (step s w = none ∧ Ex s (b (σ.set i (some w)) m) ∧ (∀ σ' m', b (σ.set i (some w)) m ≠ .nx σ' m' ∧ b (σ.set i (some w)) m ≠ .bk σ' m'))) →
      ((runF step s ws).1 = true ∧ ∃ σ' m', Inv (k0 + ws.length) (runF step s ws).2 σ' m' ∧ R = .nx σ' m') ∨ ((runF step s ws).1 = false ∧ Ex (runF step s ws).2 R)
  | [], k0, m, σ, R, s, hR, h0, _ => .inl ⟨rfl, σ, m, h0, hR.symm⟩
  | w :: ws, k0, m, σ, R, s, hR, h0, hb => by
    rcases hb k0 s w σ m (Nat.le_refl _) (by simp) h0 with ⟨s', σ', m', e1, e2, e3⟩ | ⟨e1, e2, e3⟩
    · simp only [forItems, tgSem] at hR
      rw [e2] at hR
      have := for_fold0 step Inv Ex (ws := ws) (k0 := k0 + 1) hR e3 fun k s x σ m hk hx => hb k s x σ m (by omega) (by
        rw [show k - k0 = (k - (k0 + 1)) + 1 by omega, List.getElem?_cons_succ]; exact hx)
      simp only [runF, e1]
      rw [show k0 + 1 + ws.length = k0 + (w :: ws).length by simp; omega] at this
      exact this
    · refine .inr ?_
      simp only [runF, e1]
      refine ⟨trivial, ?_⟩
      simp only [forItems, tgSem] at hR
      rw [← hR]
      generalize b (σ.set i (some w)) m = r at e2 e3
      cases r with
      | nx σ' m' => exact absurd rfl (e3 σ' m').1
      | bk σ' m' => exact absurd rfl (e3 σ' m').2
      | rt v m' => exact e2
      | ex _ _ _ _ => exact e2
      | stuck => exact e2
theorem for_fold {S : Type} {i : Nat} {b : Sl → M → SR} {ws : List W} {m : M} {σ : Sl} {R : SR} (hR : forItems (.nm i) b ws σ m = R) (step : S → W → Option S) (Inv : Nat → S → Sl → M → Prop) (Ex : S → SR → Prop) (s : S) (h0 : Inv 0 s σ m)
    (hb : ∀ k s w σ m, ws[k]? = some w → Inv k s σ m → (∃ s' σ' m', step s w = some s' ∧ b (σ.set i (some w)) m = .nx σ' m' ∧ Inv (k + 1) s' σ' m') ∨ (step s w = none ∧ Ex s (b (σ.set i (some w)) m) ∧ (∀ σ' m', b (σ.set i (some w)) m ≠ .nx σ' m' ∧ b (σ.set i (some w)) m ≠ .bk σ' m'))) :
    ((runF step s ws).1 = true ∧ ∃ σ' m', Inv ws.length (runF step s ws).2 σ' m' ∧ R = .nx σ' m') ∨ ((runF step s ws).1 = false ∧ Ex (runF step s ws).2 R) := by
  have := for_fold0 step Inv Ex (k0 := 0) hR h0 fun k s w σ m _ hw => hb k s w σ m hw
  rw [Nat.zero_add] at this
  exact this
/-- the same over enumerate -/
def runE {S : Type} (step : S → Nat → W → Option S) : S → Nat → List W → Bool × S
  | s, _, [] => (true, s)
  | s, k, x :: xs => match step s k x with
    | some s' => runE step s' (k + 1) xs
    | none => (false, s)
theorem for_foldE {S : Type} {i j : Nat} {b : Sl → M → SR} (step : S → Nat → W → Option S) (Inv : S → Sl → M → Prop) (Ex : S → SR → Prop) :
    ∀ {ws : List W} {k : Nat} {m : M} {σ : Sl} {R : SR} {s : S}, forItems (.tp [i, j]) b ((ws.zipIdx k).map fun p => .tup [.int (p.2 : Nat), p.1]) σ m = R → Inv s σ m →
      (∀ s q w σ m, k ≤ q → ws[q - k]? = some w → Inv s σ m → (∃ s' σ' m', step s q w = some s' ∧ b ((σ.set i (some (.int (q : Nat)))).set j (some w)) m = .nx σ' m' ∧ Inv s' σ' m') ∨ (step s q w = none ∧ Ex s (b ((σ.set i (some (.int (q : Nat)))).set j (some w)) m) ∧ (∀ σ' m', b ((σ.set i (some (.int (q : Nat)))).set j (some w)) m ≠ .nx σ' m' ∧ b ((σ.set i (some (.int (q : Nat)))).set j (some w)) m ≠ .bk σ' m'))) →
      ((runE step s k ws).1 = true ∧ ∃ σ' m', Inv (runE step s k ws).2 σ' m' ∧ R = .nx σ' m') ∨ ((runE step s k ws).1 = false ∧ Ex (runE step s k ws).2 R)
  | [], k, m, σ, R, s, hR, h0, _ => .inl ⟨rfl, σ, m, h0, hR.symm⟩
  | w :: ws, k, m, σ, R, s, hR, h0, hb => by
    rcases hb s k w σ m (Nat.le_refl _) (by simp) h0 with ⟨s', σ', m', e1, e2, e3⟩ | ⟨e1, e2, e3⟩
    · simp only [List.zipIdx_cons, List.map_cons, forItems, tgSem, setAll] at hR
      rw [e2] at hR
      have := for_foldE step Inv Ex (ws := ws) (k := k + 1) hR e3 fun s q x σ m hk hx => hb s q x σ m (by omega) (by
        rw [show q - k = (q - (k + 1)) + 1 by omega, List.getElem?_cons_succ]; exact hx)
      simp only [runE, e1]
      exact this
    · refine .inr ?_
      simp only [runE, e1]
      refine ⟨trivial, ?_⟩
      simp only [List.zipIdx_cons, List.map_cons, forItems, tgSem, setAll] at hR
      rw [← hR]
      generalize b ((σ.set i (some (.int (k : Nat)))).set j (some w)) m = r at e2 e3
      cases r with
      | nx σ' m' => exact absurd rfl (e3 σ' m').1
      | bk σ' m' => exact absurd rfl (e3 σ' m').2
      | rt v m' => exact e2
      | ex _ _ _ _ => exact e2
      | stuck => exact e2
@[simp] theorem meth_eq (t : String) (ro : Sl → M → Res W) (rs : Sl → M → Res (List W)) (sem : W → List W → M → Res W) (σ : Sl) (m : M) : MP.meth t ro rs sem σ m = (ro σ m).bind fun x m1 => if tyOk t x m1 = true then (rs σ m1).bind fun xs m2 => sem x xs m2 else .stuck := eqI rfl
@[simp] theorem tyOk_str (x : Str) (m : M) : tyOk "str" (.str x) m = true := eqI rfl
theorem tyOk_end (m : M) (ss : List W) : tyOk "list" (.ref m.length) (m ++ [some (.lst ss)]) = true := by
  simp [tyOk, rdL]
theorem append_end (m : M) (ss : List W) (y : W) (h : ss.length ≤ 100000) : bmSem .append (.ref m.length) [y] (m ++ [some (.lst ss)]) = .ok .non (m ++ [some (.lst (ss ++ [y]))]) := by
  simp only [bmSem, appendSem]
  rw [List.getElem?_append_right (Nat.le_refl _)]
  simp only [Nat.sub_self, List.getElem?_cons_zero]
  rw [if_pos (by rw [sizeLine_eq]; omega)]
  simp [setO]
@[simp] theorem ty_append : BM.ty .append = "list" := eqI rfl
@[simp] theorem ty_extend : BM.ty .extend = "list" := eqI rfl
@[simp] theorem ty_pop : BM.ty .pop = "list" := eqI rfl
@[simp] theorem ty_get : BM.ty .get = "dict" := eqI rfl
@[simp] theorem ty_join : BM.ty .join = "str" := eqI rfl
@[simp] theorem ty_split (frz : Bool) : BM.ty (.split frz) = "str" := eqI rfl
theorem cp2Items_flat {p : Cp2} {σ : Sl} {m : M} {g : W → List W} : ∀ {ws : List W}, (∀ w ∈ ws, cp2Turn p σ w m = .ok (g w) m) → cp2Items p σ ws m = .ok (ws.flatMap g) m
  | [], _ => rfl
  | w :: ws, h => by
    have e := h w (List.mem_cons_self ..)
    have ih := cp2Items_flat (ws := ws) fun x hx => h x (List.mem_cons_of_mem _ hx)
    simp [cp2Items, e, ih]
/-! ### loops over enumerate that end well or with what tells why not -/
def runX {S E : Type} (step : S → Nat → W → Except E S) : S → Nat → List W → Except E S
  | s, _, [] => .ok s
  | s, k, x :: xs => match step s k x with
    | .ok s' => runX step s' (k + 1) xs
    | .error e => .error e
def Goes (r : SR) : Prop := (∃ σ m, r = .nx σ m) ∨ ∃ σ m, r = .bk σ m
def LoopEnd {S E : Type} (Inv : S → Sl → M → Prop) (Ex : E → SR → Prop) (R : SR) : Except E S → Prop
  | .ok s => ∃ σ' m', Inv s σ' m' ∧ R = .nx σ' m'
  | .error e => Ex e R
theorem for_foldX {S E : Type} {i j : Nat} {b : Sl → M → SR} (step : S → Nat → W → Except E S) (Inv : S → Sl → M → Prop) (Ex : E → SR → Prop) (hEx : ∀ e r, Ex e r → ¬ Goes r) :
    ∀ {ws : List W} {k : Nat} {m : M} {σ : Sl} {R : SR} {s : S}, forItems (.tp [i, j]) b ((ws.zipIdx k).map fun p => .tup [.int (p.2 : Nat), p.1]) σ m = R → Inv s σ m →
      (∀ s q w σ m, k ≤ q → ws[q - k]? = some w → Inv s σ m → LoopEnd Inv Ex (b ((σ.set i (some (.int (q : Nat)))).set j (some w)) m) (step s q w)) → LoopEnd Inv Ex R (runX step s k ws)
  | [], k, m, σ, R, s, hR, h0, _ => ⟨σ, m, h0, hR.symm⟩
  | w :: ws, k, m, σ, R, s, hR, h0, hb => by
    have h1 := hb s k w σ m (Nat.le_refl _) (by simp) h0
    simp only [List.zipIdx_cons, List.map_cons, forItems, tgSem, setAll] at hR
    cases e : step s k w with
    | ok s' =>
      rw [e] at h1
      obtain ⟨σ', m', e3, e2⟩ := h1
      rw [e2] at hR
      simp only [runX, e]
      exact for_foldX step Inv Ex hEx (ws := ws) (k := k + 1) hR e3 fun s q x σ m hk hx => hb s q x σ m (by omega) (by
        rw [show q - k = (q - (k + 1)) + 1 by omega, List.getElem?_cons_succ]; exact hx)
    | error er =>
      rw [e] at h1
      have h1 : Ex er _ := h1
      simp only [runX, e]
      show Ex er R
      have hn := hEx _ _ h1
      rw [← hR]
      generalize b ((σ.set i (some (.int (k : Nat)))).set j (some w)) m = r at h1 hn
      cases r with
      | nx σ' m' => exact absurd (.inl ⟨_, _, rfl⟩) hn
      | bk σ' m' => exact absurd (.inr ⟨_, _, rfl⟩) hn
      | rt v m' => exact h1
      | ex _ _ _ _ => exact h1
      | stuck => exact h1
theorem for_runX {S E : Type} {i j : Nat} {b : Sl → M → SR} {ws : List W} {m : M} {σ : Sl} {R : SR} (hR : forItems (.tp [i, j]) b (pairs ws) σ m = R) (step : S → Nat → W → Except E S) (Inv : S → Sl → M → Prop) (Ex : E → SR → Prop) (hEx : ∀ e r, Ex e r → ¬ Goes r) (s : S) (h0 : Inv s σ m)
    (hb : ∀ s q w σ m, ws[q]? = some w → Inv s σ m → LoopEnd Inv Ex (b ((σ.set i (some (.int (q : Nat)))).set j (some w)) m) (step s q w)) : LoopEnd Inv Ex R (runX step s 0 ws) :=
  for_foldX step Inv Ex hEx (k := 0) hR h0 fun s q w σ m _ hw => hb s q w σ m hw
@[simp] theorem add_tup (frz : Bool) (xs ys : List W) (m : M) (h : xs.length + ys.length ≤ 1000) : binSem frz .add (.tup xs) (.tup ys) m = .ok (.tup (xs ++ ys)) m := by
  simp only [binSem, addSem]
  rw [if_pos (Nat.le_trans h (by rw [sizeLine_eq]; omega))]
theorem memS_nil (x : Str) : memS [] x = false := rfl
theorem memS_cons (s : Str) (ss : List Str) (x : Str) : memS (s :: ss) x = (decide (x = s) || memS ss x) := by
  show (s == x || memS ss x) = _
  by_cases h : x = s
  · simp [h]
  · have : ¬ s = x := fun e => h e.symm
    simp [h, this]
theorem enum_L {m : M} {w : W} {xs : List W} (e : lstW w = some xs) : srcEnum [w] m = .ok (.items (pairs xs)) m := by
  cases w <;> simp [lstW] at e <;> (subst e; rfl)
@[simp] theorem enum_lst (xs : List W) (m : M) : srcEnum [.lst xs] m = .ok (.items (pairs xs)) m := eqI rfl
theorem fdiv_int (frz : Bool) (i j : Int) (m : M) (h : 0 < j) (h2 : j < 1073741824) : binSem frz .fdiv (.int i) (.int j) m = .ok (.int (i / j)) m := by
  simp only [binSem]; rw [if_pos ⟨h, h2⟩]
theorem mod_int (frz : Bool) (i j : Int) (m : M) (h : 0 < j) : binSem frz .mod (.int i) (.int j) m = .ok (.int (i % j)) m := by
  simp only [binSem]; rw [if_pos h]
/-! ### copies -/
mutual
/-- data that a deep copy gives back: no list of the script, all lists short -/
def Cpy : W → Bool
  | .non => true
  | .bl _ => true
  | .int _ => true
  | .str _ => true
  | .tup xs => decide (xs.length ≤ 1000) && Cpys xs
  | .lst xs => decide (xs.length ≤ 1000) && Cpys xs
  | .ref _ => true
  | _ => false
def Cpys : List W → Bool
  | [] => true
  | x :: xs => Cpy x && Cpys xs
end
mutual
def dep : W → Nat
  | .tup xs => deps xs + 1
  | .lst xs => deps xs + 1
  | _ => 0
def deps : List W → Nat
  | [] => 0
  | x :: xs => max (dep x) (deps xs)
end
theorem dep_mem : ∀ {xs : List W} {x : W}, x ∈ xs → dep x ≤ deps xs
  | y :: xs, x, h => by
    rcases List.mem_cons.mp h with rfl | h
    · simp only [deps]; omega
    · have := dep_mem h; simp only [deps]; omega
theorem Cpys_iff : ∀ {xs : List W}, Cpys xs = true ↔ ∀ x ∈ xs, Cpy x = true
  | [] => by simp [Cpys]
  | x :: xs => by simp [Cpys, Cpys_iff (xs := xs)]
theorem map_id_of {g : W → W} : ∀ {xs : List W}, (∀ x ∈ xs, g x = x) → xs.map g = xs
  | [], _ => rfl
  | x :: xs, h => by rw [List.map_cons, h x (List.mem_cons_self ..), map_id_of fun y hy => h y (List.mem_cons_of_mem _ hy)]

/-! ### loops that run through -/
def foldI {S : Type} (step : S → Nat → W → S) : S → Nat → List W → S
  | s, _, [] => s
  | s, k, x :: xs => foldI step (step s k x) (k + 1) xs
theorem for_all0 {S : Type} {i : Nat} {b : Sl → M → SR} (step : S → Nat → W → S) (Inv : Nat → S → Sl → M → Prop) :
    ∀ {ws : List W} {k : Nat} {m : M} {σ : Sl} {R : SR} {s : S}, forItems (.nm i) b ws σ m = R → Inv k s σ m →
      (∀ s q w σ m, k ≤ q → ws[q - k]? = some w → Inv q s σ m → ∃ σ' m', b (σ.set i (some w)) m = .nx σ' m' ∧ Inv (q + 1) (step s q w) σ' m') → ∃ σ' m', Inv (k + ws.length) (foldI step s k ws) σ' m' ∧ R = .nx σ' m'
  | [], k, m, σ, R, s, hR, h0, _ => ⟨σ, m, h0, hR.symm⟩
  | w :: ws, k, m, σ, R, s, hR, h0, hb => by
    obtain ⟨σ', m', e1, e2⟩ := hb s k w σ m (Nat.le_refl _) (by simp) h0
    simp only [forItems, tgSem] at hR
    rw [e1] at hR
    simp only [foldI]
    rw [show k + (w :: ws).length = k + 1 + ws.length by simp; omega]
    exact for_all0 step Inv (ws := ws) (k := k + 1) hR e2 fun s q x σ m hk hx => hb s q x σ m (by omega) (by
      rw [show q - k = (q - (k + 1)) + 1 by omega, List.getElem?_cons_succ]; exact hx)
theorem for_all {S : Type} {i : Nat} {b : Sl → M → SR} {ws : List W} {m : M} {σ : Sl} {R : SR} (hR : forItems (.nm i) b ws σ m = R) (step : S → Nat → W → S) (Inv : Nat → S → Sl → M → Prop) (s : S) (h0 : Inv 0 s σ m)
    (hb : ∀ s q w σ m, ws[q]? = some w → Inv q s σ m → ∃ σ' m', b (σ.set i (some w)) m = .nx σ' m' ∧ Inv (q + 1) (step s q w) σ' m') : ∃ σ' m', Inv ws.length (foldI step s 0 ws) σ' m' ∧ R = .nx σ' m' := by
  have := for_all0 step Inv (k := 0) hR h0 fun s q w σ m _ hw => hb s q w σ m hw
  rw [Nat.zero_add] at this
  exact this
theorem for_allE0 {S : Type} {i j : Nat} {b : Sl → M → SR} (step : S → Nat → W → S) (Inv : Nat → S → Sl → M → Prop) :
    ∀ {ws : List W} {k : Nat} {m : M} {σ : Sl} {R : SR} {s : S}, forItems (.tp [i, j]) b ((ws.zipIdx k).map fun p => .tup [.int (p.2 : Nat), p.1]) σ m = R → Inv k s σ m →
      (∀ s q w σ m, k ≤ q → ws[q - k]? = some w → Inv q s σ m → ∃ σ' m', b ((σ.set i (some (.int (q : Nat)))).set j (some w)) m = .nx σ' m' ∧ Inv (q + 1) (step s q w) σ' m') → ∃ σ' m', Inv (k + ws.length) (foldI step s k ws) σ' m' ∧ R = .nx σ' m'
  | [], k, m, σ, R, s, hR, h0, _ => ⟨σ, m, h0, hR.symm⟩
  | w :: ws, k, m, σ, R, s, hR, h0, hb => by
    obtain ⟨σ', m', e1, e2⟩ := hb s k w σ m (Nat.le_refl _) (by simp) h0
    simp only [List.zipIdx_cons, List.map_cons, forItems, tgSem, setAll] at hR
    rw [e1] at hR
    simp only [foldI]
    rw [show k + (w :: ws).length = k + 1 + ws.length by simp; omega]
    exact for_allE0 step Inv (ws := ws) (k := k + 1) hR e2 fun s q x σ m hk hx => hb s q x σ m (by omega) (by
      rw [show q - k = (q - (k + 1)) + 1 by omega, List.getElem?_cons_succ]; exact hx)
theorem for_allE {S : Type} {i j : Nat} {b : Sl → M → SR} {ws : List W} {m : M} {σ : Sl} {R : SR} (hR : forItems (.tp [i, j]) b (pairs ws) σ m = R) (step : S → Nat → W → S) (Inv : Nat → S → Sl → M → Prop) (s : S) (h0 : Inv 0 s σ m)
    (hb : ∀ s q w σ m, ws[q]? = some w → Inv q s σ m → ∃ σ' m', b ((σ.set i (some (.int (q : Nat)))).set j (some w)) m = .nx σ' m' ∧ Inv (q + 1) (step s q w) σ' m') : ∃ σ' m', Inv ws.length (foldI step s 0 ws) σ' m' ∧ R = .nx σ' m' := by
  have := for_allE0 step Inv (k := 0) hR h0 fun s q w σ m _ hw => hb s q w σ m hw
  rw [Nat.zero_add] at this
  exact this

/-! ### the end of the memory -/
theorem get_app {α : Type} (a l : List α) (k : Nat) : (a ++ l)[a.length + k]? = l[k]? := by
  rw [List.getElem?_append_right (by omega)]; congr 1; omega
theorem set_app {α : Type} (a l : List α) (k : Nat) (x : α) : (a ++ l).set (a.length + k) x = a ++ l.set k x := by
  rw [List.set_append_right _ _ (by omega)]; congr 2; omega
end MP
end

section
set_option maxHeartbeats 4000000
/-! MPRepr: repr of data that is not too long. -/
namespace MP
open PySem PySem.Spec PyProof.Rows L2

mutual
/-- data that may be shown -/
def RG : W → Bool
  | .non => true
  | .bl _ => true
  | .int i => decide (i.natAbs.log2 < 1920)
  | .str x => x.cps.toList.all fun c => decide (c < 16 ^ 8)
  | .tup xs => RGs xs
  | .lst xs => RGs xs
  | _ => false
def RGs : List W → Bool
  | [] => true
  | x :: xs => RG x && RGs xs
end
mutual
/-- a bound of the length of what is shown -/
def rsz : W → Nat
  | .int i => if 0 ≤ i ∧ i < 1000 then 3 else 1921
  | .str x => 10 * x.length + 2
  | .tup xs => 4 + rszs xs
  | .lst xs => 4 + rszs xs
  | _ => 5
def rszs : List W → Nat
  | [] => 0
  | x :: xs => rsz x + 2 + rszs xs
end
mutual
def toD : W → PyData
  | .bl b => .bool b
  | .int i => .int i
  | .str x => .str x
  | .tup xs => .tuple (toDs xs)
  | .lst xs => .list (toDs xs)
  | _ => .none
def toDs : List W → List PyData
  | [] => []
  | x :: xs => toD x :: toDs xs
end
mutual
theorem dat_toD (m : M) : ∀ (n : Nat) {w : W}, RG w = true → dep w ≤ n → dat m n w = some (toD w)
  | n, .non, _, _ => by simp [toD]
  | n, .bl _, _, _ => by simp [toD]
  | n, .int _, _, _ => by simp [toD]
  | n, .str _, _, _ => by simp [toD]
  | 0, .tup xs, _, h => by simp [dep] at h
  | 0, .lst xs, _, h => by simp [dep] at h
  | n + 1, .tup xs, g, h => by
    simp only [RG] at g
    simp only [dep] at h
    simp only [dat, dats_toD m n g (by omega), toD, Option.map_some]
  | n + 1, .lst xs, g, h => by
    simp only [RG] at g
    simp only [dep] at h
    simp only [dat, dats_toD m n g (by omega), toD, Option.map_some]
  | _, .ref _, g, _ => by simp [RG] at g
  | _, .fn _, g, _ => by simp [RG] at g
  | _, .kt _, g, _ => by simp [RG] at g
  | _, .kl _, g, _ => by simp [RG] at g
  | _, .kd _, g, _ => by simp [RG] at g
theorem dats_toD (m : M) : ∀ (n : Nat) {xs : List W}, RGs xs = true → deps xs ≤ n → xs.mapM (dat m n) = some (toDs xs)
  | n, [], _, _ => rfl
  | n, x :: xs, g, h => by
    simp only [RGs, Bool.and_eq_true] at g
    simp only [deps] at h
    rw [List.mapM_cons, dat_toD m n g.1 (by omega), dats_toD m n g.2 (by omega)]
    rfl
end
mutual
theorem show_toD : ∀ {w : W}, RG w = true → (toD w).showable = true
  | .non, _ => by simp [toD, PyData.showable]
  | .bl _, _ => by simp [toD, PyData.showable]
  | .int i, g => by simpa [RG, toD, PyData.showable] using g
  | .str _, _ => by simp [toD, PyData.showable]
  | .tup xs, g => by simp only [RG] at g; simp only [toD, PyData.showable]; exact shows_toD g
  | .lst xs, g => by simp only [RG] at g; simp only [toD, PyData.showable]; exact shows_toD g
  | .ref _, g => by simp [RG] at g
  | .fn _, g => by simp [RG] at g
  | .kt _, g => by simp [RG] at g
  | .kl _, g => by simp [RG] at g
  | .kd _, g => by simp [RG] at g
theorem shows_toD : ∀ {xs : List W}, RGs xs = true → PyData.showableAll (toDs xs) = true
  | [], _ => by simp [toDs, PyData.showableAll]
  | x :: xs, g => by
    simp only [RGs, Bool.and_eq_true] at g
    simp only [toDs, PyData.showableAll, Bool.and_eq_true]
    exact ⟨show_toD g.1, shows_toD g.2⟩
end
theorem str_len_app (a b : Str) : (a ++ b).length = a.length + b.length := by
  show (a.cps ++ b.cps).size = _
  simp [Str.length]
theorem lit_len1 (s : String) (n : Nat) (h : (Str.ofString s).length = n) : (Str.ofString s).length = n := h
def lens (ts : List Str) : Nat := (ts.map fun t => t.length + 2).sum
theorem textFrom_le : ∀ (ts : List Str) (k : Nat) (acc : Str), (textFrom k acc ts).length ≤ acc.length + lens ts
  | [], k, acc => by simp [textFrom, lens]
  | t :: ts, k, acc => by
    have ih := textFrom_le ts (k + 1) (acc ++ (if k > 0 then ", " else "" : String) ++ t)
    rw [str_len_app, str_len_app] at ih
    have h2 : (Str.ofString (if k > 0 then ", " else "" : String)).length ≤ 2 := by
      split
      · exact Nat.le_of_eq (by decide +kernel)
      · exact Nat.le_trans (Nat.le_of_eq (by decide +kernel : (Str.ofString "").length = 0)) (by omega)
    simp only [textFrom, lens, List.map_cons, List.sum_cons] at ih ⊢
    omega
theorem listText_le (ts : List Str) : (listText ts).length ≤ 4 + lens ts := by
  unfold listText
  rw [str_len_app]
  have := textFrom_le ts 0 "["
  have h1 : (Str.ofString "[").length = 1 := by decide +kernel
  have h2 : (Str.ofString "]").length = 1 := by decide +kernel
  omega
theorem tupleText_le (ts : List Str) : (tupleText ts).length ≤ 4 + lens ts := by
  unfold tupleText
  rw [str_len_app, str_len_app]
  have := StrLaws.join_length_le ", " ts
  have h1 : (Str.ofString "(").length = 1 := by decide +kernel
  have h2 : (Str.ofString (if ts.length == 1 then ",)" else ")" : String)).length ≤ 2 := by
    split
    · exact Nat.le_of_eq (by decide +kernel)
    · exact Nat.le_trans (Nat.le_of_eq (by decide +kernel : (Str.ofString ")").length = 1)) (by omega)
  have h3 : (Str.ofString ", ").length = 2 := by decide +kernel
  have h4 : lens ts = (ts.map (·.length)).sum + ts.length * 2 := by
    unfold lens
    clear this h2
    induction ts with
    | nil => rfl
    | cons t ts ih => simp only [List.map_cons, List.sum_cons, List.length_cons]; omega
  rw [h3] at this
  omega
mutual
theorem shown_le : ∀ {w : W}, RG w = true → (toD w).shown.length ≤ rsz w
  | .non, _ => by simp only [toD, PyData.shown, rsz]; exact Nat.le_trans (Nat.le_of_eq (by decide +kernel : (Str.ofString "None").length = 4)) (by omega)
  | .bl b, _ => by
    simp only [toD, PyData.shown, rsz]
    cases b
    · exact Nat.le_of_eq (by decide +kernel)
    · exact Nat.le_trans (Nat.le_of_eq (by decide +kernel : (Str.ofString "True").length = 4)) (by omega)
  | .int i, g => by
    simp only [toD, PyData.shown, rsz]
    simp only [RG, decide_eq_true_eq] at g
    split
    · rename_i h
      exact toString_length_le h.1 (k := 3) (by omega) (by have := h.2; omega)
    · exact int_text_len_1921 g
  | .str x, g => by
    simp only [toD, PyData.shown, rsz]
    simp only [RG, List.all_eq_true, decide_eq_true_eq] at g
    exact StrLaws.reprText_len x g
  | .tup xs, g => by
    simp only [RG] at g
    simp only [toD, PyData.shown, rsz]
    exact Nat.le_trans (tupleText_le _) (by have := showns_le g; omega)
  | .lst xs, g => by
    simp only [RG] at g
    simp only [toD, PyData.shown, rsz]
    exact Nat.le_trans (listText_le _) (by have := showns_le g; omega)
  | .ref _, g => by simp [RG] at g
  | .fn _, g => by simp [RG] at g
  | .kt _, g => by simp [RG] at g
  | .kl _, g => by simp [RG] at g
  | .kd _, g => by simp [RG] at g
theorem showns_le : ∀ {xs : List W}, RGs xs = true → lens (PyData.shownAll (toDs xs)) ≤ rszs xs
  | [], _ => by simp [toDs, PyData.shownAll, rszs, lens]
  | x :: xs, g => by
    simp only [RGs, Bool.and_eq_true] at g
    have h1 := shown_le g.1
    have h2 := showns_le g.2
    simp only [toDs, PyData.shownAll, rszs, lens, List.map_cons, List.sum_cons] at h2 ⊢
    omega
end
theorem repr_lst {xs : List W} (g : RG (.lst xs) = true) (hd : dep (.lst xs) ≤ 60) (hz : rsz (.lst xs) ≤ 16000000) : ∃ z, ∀ m, reprSem (.lst xs) m = .ok (.str z) m := by
  refine ⟨(toD (.lst xs)).shown, fun m => ?_⟩
  simp only [reprSem, dat_toD m 60 g hd]
  rw [if_pos ⟨show_toD g, Nat.le_trans (shown_le g) (Nat.le_trans hz (by rw [sizeLine_eq]; omega))⟩]
theorem RGs_iff : ∀ {xs : List W}, RGs xs = true ↔ ∀ x ∈ xs, RG x = true
  | [] => by simp [RGs]
  | x :: xs => by simp [RGs, RGs_iff (xs := xs)]
end MP
end

section
set_option maxHeartbeats 4000000
/-! MPPure: plain data by value: no thing that changes within it, nothing long. -/
namespace MP
open PySem PySem.Spec PyProof.Rows L2

mutual
def Pu : W → Bool
  | .non => true
  | .bl _ => true
  | .int i => decide (i.natAbs.log2 < 1920)
  | .str x => decide (x.length ≤ 1000) && x.cps.toList.all fun c => decide (c < 16 ^ 8)
  | .tup xs => decide (xs.length ≤ 1000) && Pus xs
  | .lst xs => decide (xs.length ≤ 1000) && Pus xs
  | _ => false
def Pus : List W → Bool
  | [] => true
  | x :: xs => Pu x && Pus xs
end
theorem Pus_iff : ∀ {xs : List W}, Pus xs = true ↔ ∀ x ∈ xs, Pu x = true
  | [] => by simp [Pus]
  | x :: xs => by simp [Pus, Pus_iff (xs := xs)]
mutual
theorem Pu.rg : ∀ {w : W}, Pu w = true → RG w = true
  | .non, _ => by simp [RG]
  | .bl _, _ => by simp [RG]
  | .int i, h => by simpa only [RG, Pu] using h
  | .str x, h => by
    simp only [Pu, Bool.and_eq_true] at h
    simp only [RG]; exact h.2
  | .tup xs, h => by
    simp only [Pu, Bool.and_eq_true] at h
    simp only [RG]; exact Pus.rg h.2
  | .lst xs, h => by
    simp only [Pu, Bool.and_eq_true] at h
    simp only [RG]; exact Pus.rg h.2
  | .ref _, h => by simp [Pu] at h
  | .fn _, h => by simp [Pu] at h
  | .kt _, h => by simp [Pu] at h
  | .kl _, h => by simp [Pu] at h
  | .kd _, h => by simp [Pu] at h
theorem Pus.rg : ∀ {xs : List W}, Pus xs = true → RGs xs = true
  | [], _ => by simp [RGs]
  | x :: xs, h => by
    simp only [Pus, Bool.and_eq_true] at h
    simp only [RGs, Bool.and_eq_true]
    exact ⟨Pu.rg h.1, Pus.rg h.2⟩
end
mutual
theorem Pu.cpy : ∀ {w : W}, Pu w = true → Cpy w = true
  | .non, _ => by simp [Cpy]
  | .bl _, _ => by simp [Cpy]
  | .int i, h => by simp [Cpy]
  | .str x, h => by simp [Cpy]
  | .tup xs, h => by
    simp only [Pu, Bool.and_eq_true] at h
    simp only [Cpy, Bool.and_eq_true]; exact ⟨h.1, Pus.cpy h.2⟩
  | .lst xs, h => by
    simp only [Pu, Bool.and_eq_true] at h
    simp only [Cpy, Bool.and_eq_true]; exact ⟨h.1, Pus.cpy h.2⟩
  | .ref _, h => by simp [Pu] at h
  | .fn _, h => by simp [Pu] at h
  | .kt _, h => by simp [Pu] at h
  | .kl _, h => by simp [Pu] at h
  | .kd _, h => by simp [Pu] at h
theorem Pus.cpy : ∀ {xs : List W}, Pus xs = true → Cpys xs = true
  | [], _ => by simp [Cpys]
  | x :: xs, h => by
    simp only [Pus, Bool.and_eq_true] at h
    simp only [Cpys, Bool.and_eq_true]
    exact ⟨Pu.cpy h.1, Pus.cpy h.2⟩
end
mutual
theorem Pu.dat (m : M) : ∀ {w : W}, Pu w = true → Dat m w = true
  | .non, _ => by simp [Dat]
  | .bl _, _ => by simp [Dat]
  | .int i, h => by simp [Dat]
  | .str x, h => by
    simp only [Pu, Bool.and_eq_true, decide_eq_true_eq] at h
    simp only [Dat, decide_eq_true_eq]; omega
  | .tup xs, h => by
    simp only [Pu, Bool.and_eq_true] at h
    simp only [Dat]; exact Pus.dat m h.2
  | .lst xs, h => by
    simp only [Pu, Bool.and_eq_true] at h
    simp only [Dat]; exact Pus.dat m h.2
  | .ref _, h => by simp [Pu] at h
  | .fn _, h => by simp [Pu] at h
  | .kt _, h => by simp [Pu] at h
  | .kl _, h => by simp [Pu] at h
  | .kd _, h => by simp [Pu] at h
theorem Pus.dat (m : M) : ∀ {xs : List W}, Pus xs = true → Dats m xs = true
  | [], _ => by simp [Dats]
  | x :: xs, h => by
    simp only [Pus, Bool.and_eq_true] at h
    simp only [Dats, Bool.and_eq_true]
    exact ⟨Pu.dat m h.1, Pus.dat m h.2⟩
end
theorem Pu_tup {xs : List W} (hl : xs.length ≤ 1000) (h : ∀ x ∈ xs, Pu x = true) : Pu (.tup xs) = true := by
  simp only [Pu, Bool.and_eq_true, decide_eq_true_eq]; exact ⟨hl, Pus_iff.mpr h⟩
theorem Pu_lst {xs : List W} (hl : xs.length ≤ 1000) (h : ∀ x ∈ xs, Pu x = true) : Pu (.lst xs) = true := by
  simp only [Pu, Bool.and_eq_true, decide_eq_true_eq]; exact ⟨hl, Pus_iff.mpr h⟩
theorem rszs_app : ∀ xs ys : List W, rszs (xs ++ ys) = rszs xs + rszs ys
  | [], ys => by simp [rszs]
  | x :: xs, ys => by simp only [List.cons_append, rszs, rszs_app xs ys]; omega
theorem rszs_take : ∀ (xs : List W) (k : Nat), rszs (xs.take k) ≤ rszs xs
  | [], k => by simp [rszs]
  | x :: xs, 0 => by simp [rszs]
  | x :: xs, k + 1 => by
    have := rszs_take xs k
    simp only [List.take_succ_cons, rszs]; omega
/-- a comprehension, with what it has so far -/
theorem cp_draws2 {p : Cp} {σ : Sl} {j : Nat} {I : List W → M → Prop} (ht : p.tg = .nm j) (hc : p.cond = yes) :
    ∀ {ws : List W} {acc : List W} {m : M}, I acc m → (∀ w ∈ ws, ∀ acc m, I acc m → ∃ x m', p.elt ((wipeW σ p.vs).set j (some w)) m = .ok x m' ∧ I (acc ++ [x]) m') → ∃ xs m', cpItems p σ ws m = .ok xs m' ∧ I (acc ++ xs) m' ∧ xs.length = ws.length
  | [], acc, m, hi, _ => ⟨[], m, rfl, by simpa using hi, rfl⟩
  | w :: ws, acc, m, hi, h => by
    obtain ⟨x, m1, e1, i1⟩ := h w (List.mem_cons_self ..) acc m hi
    obtain ⟨xs, m2, e2, i2, l2⟩ := cp_draws2 ht hc (ws := ws) i1 fun y hy => h y (List.mem_cons_of_mem _ hy)
    refine ⟨x :: xs, m2, ?_, by simpa using i2, by simp [l2]⟩
    simp [cpItems, cpTurn_all ht hc, e1, e2]
/-- a loop that runs through -/
theorem for_inv {i : Nat} {b : Sl → M → SR} {ws : List W} {m : M} {σ : Sl} {R : SR} (hR : forItems (.nm i) b ws σ m = R) (Inv : Nat → Sl → M → Prop) (h0 : Inv 0 σ m)
    (hb : ∀ q w σ m, ws[q]? = some w → Inv q σ m → ∃ σ' m', b (σ.set i (some w)) m = .nx σ' m' ∧ Inv (q + 1) σ' m') : ∃ σ' m', Inv ws.length σ' m' ∧ R = .nx σ' m' :=
  for_all hR (fun (_ : Unit) _ _ => ()) (fun q _ σ m => Inv q σ m) () h0 fun _ q w σ m hw hi => hb q w σ m hw hi
end MP
end

section
set_option maxHeartbeats 4000000
/-! MPSat: a run that ends well, step by step: `Sp r Q` (a value), `SpS s N R` (statements). -/
namespace MP
open PySem PySem.Spec PyProof.Rows L2

/-- r ends well, with Q -/
def Sp {α : Type} (r : Res α) (Q : α → M → Prop) : Prop := ∃ a m, r = .ok a m ∧ Q a m
/-- the statements end well: on with N, returned with R -/
def SpS (s : SR) (N : Sl → M → Prop) (R : W → M → Prop) : Prop := (∃ σ m, s = .nx σ m ∧ N σ m) ∨ (∃ w m, s = .rt w m ∧ R w m)
theorem Sp.gen {α : Type} {r : Res α} {Q : α → M → Prop} (h : ∀ Q' : α → M → Prop, (∀ a m, Q a m → Q' a m) → Sp r Q') : Sp r Q := h Q fun _ _ x => x
theorem SpS.gen {s : SR} {N : Sl → M → Prop} {R : W → M → Prop} (h : ∀ (N' : Sl → M → Prop) (R' : W → M → Prop), (∀ σ m, N σ m → N' σ m) → (∀ w m, R w m → R' w m) → SpS s N' R') : SpS s N R := h N R (fun _ _ x => x) fun _ _ x => x
@[simp] theorem Sp_ok {α : Type} {a : α} {m : M} {Q : α → M → Prop} : Sp (.ok a m) Q ↔ Q a m :=
  ⟨fun ⟨_, _, e, h⟩ => by cases e; exact h, fun h => ⟨_, _, rfl, h⟩⟩
@[simp] theorem Sp_bind {α β : Type} {r : Res α} {f : α → M → Res β} {Q : β → M → Prop} : Sp (r.bind f) Q ↔ Sp r fun a m => Sp (f a m) Q := by
  cases r with
  | ok a m => simp
  | exc c fs m => simp [Sp]
  | stuck => simp [Sp]
@[simp] theorem Sp_ite {α : Type} {c : Prop} [Decidable c] {a b : Res α} {Q : α → M → Prop} : Sp (if c then a else b) Q ↔ if c then Sp a Q else Sp b Q := by split <;> exact Iff.rfl
@[simp] theorem SpS_nx {σ : Sl} {m : M} {N : Sl → M → Prop} {R : W → M → Prop} : SpS (.nx σ m) N R ↔ N σ m :=
  ⟨fun h => by rcases h with ⟨_, _, e, h⟩ | ⟨_, _, e, _⟩ <;> cases e; exact h, fun h => .inl ⟨_, _, rfl, h⟩⟩
@[simp] theorem SpS_rt {w : W} {m : M} {N : Sl → M → Prop} {R : W → M → Prop} : SpS (.rt w m) N R ↔ R w m :=
  ⟨fun h => by rcases h with ⟨_, _, e, _⟩ | ⟨_, _, e, h⟩ <;> cases e; exact h, fun h => .inr ⟨_, _, rfl, h⟩⟩
@[simp] theorem SpS_then {α : Type} {σ : Sl} {r : Res α} {f : α → M → SR} {N : Sl → M → Prop} {R : W → M → Prop} : SpS (thenS σ r f) N R ↔ Sp r fun a m => SpS (f a m) N R := by
  cases r with
  | ok a m => simp
  | exc c fs m => simp [Sp, SpS]
  | stuck => simp [Sp, SpS, thenS]
@[simp] theorem SpS_andThen {s : SR} {k : Sl → M → SR} {N : Sl → M → Prop} {R : W → M → Prop} : SpS (s.andThen k) N R ↔ SpS s (fun σ m => SpS (k σ m) N R) R := by
  cases s with
  | nx σ m => simp
  | rt w m => simp
  | bk σ m => simp [SpS]
  | ex σ c fs m => simp [SpS]
  | stuck => simp [SpS, SR.andThen]
@[simp] theorem SpS_ite {c : Prop} [Decidable c] {a b : SR} {N : Sl → M → Prop} {R : W → M → Prop} : SpS (if c then a else b) N R ↔ if c then SpS a N R else SpS b N R := by split <;> exact Iff.rfl
@[simp] theorem Sp_asRes {s : SR} {Q : W → M → Prop} : Sp (asRes s) Q ↔ SpS s (fun _ m => Q .non m) Q := by
  cases s with
  | nx σ m => simp
  | rt w m => simp
  | bk σ m => simp [Sp, SpS, asRes]
  | ex σ c fs m => simp [Sp, SpS]
  | stuck => simp [Sp, SpS, asRes]
theorem Sp.mono {α : Type} {r : Res α} {P Q : α → M → Prop} (h : Sp r P) (k : ∀ a m, P a m → Q a m) : Sp r Q := by
  obtain ⟨a, m, e, p⟩ := h; exact ⟨a, m, e, k a m p⟩
theorem SpS.mono {s : SR} {N N' : Sl → M → Prop} {R R' : W → M → Prop} (h : SpS s N R) (k : ∀ σ m, N σ m → N' σ m) (k' : ∀ w m, R w m → R' w m) : SpS s N' R' := by
  rcases h with ⟨σ, m, e, p⟩ | ⟨w, m, e, p⟩
  · exact .inl ⟨σ, m, e, k σ m p⟩
  · exact .inr ⟨w, m, e, k' w m p⟩
theorem Sp.of_eq {α : Type} {r : Res α} {a : α} {m : M} {Q : α → M → Prop} (e : r = .ok a m) (h : Q a m) : Sp r Q := ⟨a, m, e, h⟩
@[simp] theorem Sp_thenOk {α : Type} {r : Res α} {Q : α → M → Prop} : Sp (calm r) Q ↔ Sp r Q := by
  cases r with
  | ok a m => simp
  | exc c fs m => simp [Sp, calm]
  | stuck => simp [Sp, calm]
/-- an if that goes on behind itself: once, with what both ways leave -/
theorem SpS.join {s : SR} {N : Sl → M → Prop} {R : W → M → Prop} (P : Sl → M → Prop) (h : SpS s P R) (k : ∀ σ m, P σ m → N σ m) : SpS s N R := h.mono k fun _ _ x => x
/-- for x in ws: with an invariant -/
theorem SpS_for {i : Nat} {b : Sl → M → SR} {N : Sl → M → Prop} {R : W → M → Prop} (Inv : Nat → Sl → M → Prop) :
    ∀ {ws : List W} {σ : Sl} {m : M}, Inv 0 σ m → (∀ k w σ m, ws[k]? = some w → Inv k σ m → SpS (b (σ.set i (some w)) m) (Inv (k + 1)) R) → (∀ σ m, Inv ws.length σ m → N σ m) → SpS (forItems (.nm i) b ws σ m) N R := by
  have key : ∀ (ws : List W) (k0 : Nat) (σ : Sl) (m : M), Inv k0 σ m → (∀ k w σ m, ws[k]? = some w → Inv (k0 + k) σ m → SpS (b (σ.set i (some w)) m) (Inv (k0 + k + 1)) R) → (∀ σ m, Inv (k0 + ws.length) σ m → N σ m) → SpS (forItems (.nm i) b ws σ m) N R := by
    intro ws
    induction ws with
    | nil => intro k0 σ m h _ hN; simp only [forItems, SpS_nx]; exact hN _ _ h
    | cons w ws ih =>
      intro k0 σ m h hb hN
      have h1 := hb 0 w σ m rfl h
      simp only [forItems, tgSem]
      rcases h1 with ⟨σ', m', e, p⟩ | ⟨v, m', e, p⟩
      · rw [e]
        refine ih (k0 + 1) σ' m' p (fun k x σ m hx hi => ?_) fun σ m hi => ?_
        · have := hb (k + 1) x σ m (by simpa using hx) (by rw [show k0 + (k + 1) = k0 + 1 + k by omega]; exact hi)
          rw [show k0 + (k + 1) + 1 = k0 + 1 + k + 1 by omega] at this
          exact this
        · refine hN σ m ?_
          rw [List.length_cons, show k0 + (ws.length + 1) = k0 + 1 + ws.length by omega]; exact hi
      · rw [e]; exact SpS_rt.mpr p
  intro ws σ m h hb hN
  refine key ws 0 σ m h (fun k w σ m hx hi => ?_) fun σ m hi => hN σ m ?_
  · rw [Nat.zero_add] at hi ⊢; exact hb k w σ m hx hi
  · rw [Nat.zero_add] at hi; exact hi
/-- for k, x in enumerate(ws) -/
theorem SpS_forE {i j : Nat} {b : Sl → M → SR} {N : Sl → M → Prop} {R : W → M → Prop} (Inv : Nat → Sl → M → Prop) :
    ∀ {ws : List W} {σ : Sl} {m : M}, Inv 0 σ m → (∀ k w σ m, ws[k]? = some w → Inv k σ m → SpS (b ((σ.set i (some (.int (k : Nat)))).set j (some w)) m) (Inv (k + 1)) R) → (∀ σ m, Inv ws.length σ m → N σ m) → SpS (forItems (.tp [i, j]) b (pairs ws) σ m) N R := by
  have key : ∀ (ws : List W) (k0 : Nat) (σ : Sl) (m : M), Inv k0 σ m → (∀ k w σ m, ws[k]? = some w → Inv (k0 + k) σ m → SpS (b ((σ.set i (some (.int (k0 + k : Nat)))).set j (some w)) m) (Inv (k0 + k + 1)) R) → (∀ σ m, Inv (k0 + ws.length) σ m → N σ m) →
      SpS (forItems (.tp [i, j]) b ((ws.zipIdx k0).map fun p => .tup [.int (p.2 : Nat), p.1]) σ m) N R := by
    intro ws
    induction ws with
    | nil => intro k0 σ m h _ hN; simp only [List.zipIdx_nil, List.map_nil, forItems, SpS_nx]; exact hN _ _ h
    | cons w ws ih =>
      intro k0 σ m h hb hN
      have h1 := hb 0 w σ m rfl h
      simp only [List.zipIdx_cons, List.map_cons, forItems, tgSem, setAll]
      rcases h1 with ⟨σ', m', e, p⟩ | ⟨v, m', e, p⟩
      · rw [Nat.add_zero] at e p
        rw [e]
        refine ih (k0 + 1) σ' m' p (fun k x σ m hx hi => ?_) fun σ m hi => ?_
        · have := hb (k + 1) x σ m (by simpa using hx) (by rw [show k0 + (k + 1) = k0 + 1 + k by omega]; exact hi)
          rw [show k0 + (k + 1) = k0 + 1 + k by omega] at this
          exact this
        · refine hN σ m ?_
          rw [List.length_cons, show k0 + (ws.length + 1) = k0 + 1 + ws.length by omega]; exact hi
      · rw [Nat.add_zero] at e
        rw [e]; exact SpS_rt.mpr p
  intro ws σ m h hb hN
  refine key ws 0 σ m h (fun k w σ m hx hi => ?_) fun σ m hi => hN σ m ?_
  · rw [Nat.zero_add] at hi ⊢; exact hb k w σ m hx hi
  · rw [Nat.zero_add] at hi; exact hi
/-- [e for x in ws], with an invariant over what is there -/
theorem Sp_comp {p : Cp} {σ : Sl} {j : Nat} {Q : List W → M → Prop} (I : List W → M → Prop) (ht : p.tg = .nm j) (hc : p.cond = yes) :
    ∀ {ws : List W} {m : M}, I [] m → (∀ k w acc m, ws[k]? = some w → acc.length = k → I acc m → Sp (p.elt ((wipeW σ p.vs).set j (some w)) m) fun x m' => I (acc ++ [x]) m') → (∀ acc m, acc.length = ws.length → I acc m → Q acc m) → Sp (cpItems p σ ws m) Q := by
  have key : ∀ (ws : List W) (acc : List W) (m : M), I acc m → (∀ k w acc' m, ws[k]? = some w → acc'.length = acc.length + k → I acc' m → Sp (p.elt ((wipeW σ p.vs).set j (some w)) m) fun x m' => I (acc' ++ [x]) m') →
      Sp (cpItems p σ ws m) fun xs m' => xs.length = ws.length ∧ I (acc ++ xs) m' := by
    intro ws
    induction ws with
    | nil => intro acc m h _; exact ⟨[], m, rfl, rfl, by simpa using h⟩
    | cons w ws ih =>
      intro acc m h hb
      have h1 := hb 0 w acc m rfl rfl h
      have e : cpItems p σ (w :: ws) m = (p.elt ((wipeW σ p.vs).set j (some w)) m |> calm).bind fun x m1 => (cpItems p σ ws m1).bind fun xs m2 => .ok (x :: xs) m2 := by
        show (cpTurn p σ w m).bind _ = _
        rw [cpTurn_all ht hc]
        cases p.elt ((wipeW σ p.vs).set j (some w)) m <;> rfl
      rw [e, Sp_bind]
      refine (Sp_thenOk.mpr h1).mono fun x m1 hx => ?_
      rw [Sp_bind]
      refine (ih (acc ++ [x]) m1 hx fun k w' acc' m' hw' hl hi => ?_).mono fun xs m2 ⟨hl, hi⟩ => ?_
      · exact hb (k + 1) w' acc' m' (by simpa using hw') (by rw [hl, List.length_append, List.length_singleton]; omega) hi
      · rw [Sp_ok]; exact ⟨by simp [hl], by simpa using hi⟩
  intro ws m h hb hQ
  refine (key ws [] m h fun k w acc m hw hl hi => hb k w acc m hw (by simpa using hl) hi).mono fun xs m' ⟨hl, hi⟩ => hQ xs m' hl ?_
  simpa using hi
end MP
end

section
set_option maxHeartbeats 4000000
/-! Spec1: the checks of names, phrases, expressions: what they compute. -/
namespace MPT
open PySem PySem.Spec PyProof.Rows L2 MP

noncomputable abbrev CL (n : Nat) : Cl := pd.tx.cl (pd.tx.call (n + 1)) (pd.tx.call n)
theorem call_body {n i : Nat} {ws us : List W} {m : M} {fi : Fi} (h : pd.tx.fns[i]? = some fi) (hp : pad fi ws = some us) : pd.tx.call (n + 2) i ws m = asRes (evSs (CL n) pd.tx.xn fi.body (startW fi us) m) := by
  show (match pd.tx.fns[i]? with | some fi => runFn (CL n) pd.tx.xn fi ws m | none => Res.stuck) = _
  rw [h]
  show (match pad fi ws with | none => Res.stuck | some us => _) = _
  rw [hp]
theorem isaB : IsaB pd.tx.g := ⟨by decide, by decide, by decide, by decide, by decide⟩
theorem cl_g (n : Nat) : (CL n).g = pd.tx.g := rfl
theorem cl_c0 (n : Nat) : (CL n).c0 = pd.tx.call (n + 1) := rfl
theorem cl_F (n : Nat) : (CL n).F = pd.F := rfl

/-! ### what is meant -/
def wordsL : List Str := ["let", "set", "put", "add", "cut", "say", "ask", "if", "else", "while", "leave", "give", "raise", "try", "catch", "last", "def", "class", "over", "call", "none", "yes", "no", "and", "or", "not", "len", "kind", "above", "at"]
def lettersL : Str := "abcdefghijklmnopqrstuvwxyz"
def phraseL : Str := "abcdefghijklmnopqrstuvwxyz0123456789 "
def isName : W → Bool
  | .str x => decide ((1 : Int) ≤ x.length) && decide ((x.length : Int) ≤ 8) && !(memS wordsL x) && x.cps.toList.all fun c => decide (c ∈ lettersL.cps.toList)
  | _ => false
def isPhrase : W → Bool
  | .str x => decide ((x.length : Int) ≤ 20) && x.cps.toList.all fun c => decide (c ∈ phraseL.cps.toList)
  | _ => false
def isIntg : W → Bool
  | .int _ => true
  | _ => false
def isNum : W → Bool
  | .int i => decide (0 ≤ i) && decide (i ≤ 999)
  | _ => false

/-! ### the functions -/
section
variable {n : Nat} {m : M} {w : W}
theorem is_integer_eq (h : Dat m w = true) : pd.tx.call (n + 2) i_is_integer [w] m = .ok (.bl (isIntg w)) m := by
  rw [call_body (fi := f_is_integer.fi) (us := [w]) rfl rfl]
  show asRes (evSs (CL n) pd.tx.xn f_is_integer.body [some w] m) = _
  simp [f_is_integer, cl_g, isa_int isaB h, isa_bl isaB h]
  cases w <;> simp [isIntW, isBlW, isIntg]
theorem glo_WORDS (σ : Sl) : eGlo (CL n).gvs g_WORDS σ m = .ok (.kt (wordsL.map W.str)) m := rfl
theorem glo_LETTERS (σ : Sl) : eGlo (CL n).gvs g_LETTERS σ m = .ok (.str lettersL) m := rfl
theorem is_name_eq (h : Dat m w = true) : pd.tx.call (n + 2) i_is_name [w] m = .ok (.bl (isName w)) m := by
  rw [call_body (fi := f_is_name.fi) (us := [w]) rfl rfl]
  show asRes (evSs (CL n) pd.tx.xn f_is_name.body [some w, none] m) = _
  simp [f_is_name, cl_g, isa_str isaB h]
  cases w <;> simp [isStrW, isName]
  rename_i x
  have hl : x.length ≤ 100000 := by simpa [Dat] using h
  rw [len_str h]
  simp [glo_WORDS, in_kt]
  rw [cpItems_signs (i := 1) (g := fun c => .bl (decide (c ∈ lettersL.cps.toList))) rfl rfl (fun c _ => by simp [glo_LETTERS, str_in1, wipeW])]
  have hl' : x.cps.size ≤ 100000 := hl
  simp [mkLst_big, hl', all_map]
  by_cases h1 : (x.length : Int) < 1 <;> by_cases h2 : (8 : Int) < x.length <;> cases memS wordsL x <;> simp [h1, h2, Int.not_le.mpr, Int.not_lt.mp]
theorem glo_PHRASE (σ : Sl) : eGlo (CL n).gvs g_PHRASE_CHARACTERS σ m = .ok (.str phraseL) m := rfl
theorem is_phrase_eq (h : Dat m w = true) : pd.tx.call (n + 2) i_is_phrase [w] m = .ok (.bl (isPhrase w)) m := by
  rw [call_body (fi := f_is_phrase.fi) (us := [w]) rfl rfl]
  show asRes (evSs (CL n) pd.tx.xn f_is_phrase.body [some w, none] m) = _
  simp [f_is_phrase, cl_g, isa_str isaB h]
  cases w <;> simp [isStrW, isPhrase]
  rename_i x
  have hl : x.cps.size ≤ 100000 := by
    have : x.length ≤ 100000 := by simpa [Dat] using h
    exact this
  rw [len_str h]
  simp
  rw [cpItems_signs (i := 1) (g := fun c => .bl (decide (c ∈ phraseL.cps.toList))) rfl rfl (fun c _ => by simp [glo_PHRASE, str_in1, wipeW])]
  simp [mkLst_big, hl, all_map]
def begins : W → Bool
  | .tup (.str _ :: _) => true
  | _ => false
theorem begins_with_word_eq (h : Dat m w = true) : pd.tx.call (n + 2) i_begins_with_word [w] m = .ok (.bl (begins w)) m := by
  rw [call_body (fi := f_begins_with_word.fi) (us := [w]) rfl rfl]
  show asRes (evSs (CL n) pd.tx.xn f_begins_with_word.body [some w] m) = _
  simp [f_begins_with_word, cl_g, isa_tup isaB h]
  cases w <;> simp [isTupW, begins]
  rename_i xs
  cases xs with
  | nil => simp
  | cons x xs =>
    have hx : Dat m x = true := by simp [Dat, Dats] at h; exact h.1
    simp [isa_str isaB hx]
    cases x <;> rfl
def isLeaf (word : Str) (p : W) : Bool := if word = "number" then isNum p else if word = "text" then isPhrase p else isName p
theorem is_leaf_eq {word : Str} (h : Dat m w = true) : pd.tx.call (n + 3) i_is_leaf [.str word, w] m = .ok (.bl (isLeaf word w)) m := by
  rw [call_body (fi := f_is_leaf.fi) (us := [.str word, w]) rfl rfl]
  show asRes (evSs (CL (n + 1)) pd.tx.xn f_is_leaf.body [some (.str word), some w] m) = _
  simp [f_is_leaf, cl_c0, is_integer_eq h, is_phrase_eq h, is_name_eq h]
  unfold isLeaf
  by_cases h1 : word = "number" <;> simp [h1]
  cases w <;> simp [isIntg, isNum]
end
def isColl (f : W → Bool) (word : Str) (c : W) : Bool := match lstW c with
  | some xs => decide ((xs.length : Int) ≤ 4) && (if word = "list" then allB f xs else allB (fun row => match row with
    | .tup [a, b] => f a && f b
    | _ => false) xs)
  | none => false
def opsL : List Str := ["+", "-", "*", "<", "==", "and", "or"]
def isExpr : Nat → W → Bool
  | 0, _ => false
  | r + 1, .tup (.str word :: rest) =>
    if memS ["none", "yes", "no"] word then rest.isEmpty
    else if memS ["number", "text", "name", "above"] word then (match rest with
      | [p] => isLeaf word p
      | _ => false)
    else if memS ["not", "len", "kind"] word then (match rest with
      | [a] => isExpr r a
      | _ => false)
    else if memS ["list", "table"] word then (match rest with
      | [c] => isColl (isExpr r) word c
      | _ => false)
    else if word = "get" then (match rest with
      | [a, b] => isExpr r a && isName b
      | _ => false)
    else if word = "at" then (match rest with
      | [a, b] => isExpr r a && isExpr r b
      | _ => false)
    else if word = "op" then (match rest with
      | [.str o, a, b] => memS opsL o && isExpr r a && isExpr r b
      | _ => false)
    else false
  | _ + 1, _ => false
section
variable {n : Nat} {m : M} {w : W}
theorem is_collection_eq {word : Str} {r : Nat} {k : Nat} (ih : ∀ a, Dat m a = true → pd.tx.call (k + 1) i_is_expression [a, .int r] m = .ok (.bl (isExpr r a)) m) (h : Dat m w = true) :
    pd.tx.call (k + 2) i_is_collection [.str word, w, .int r] m = .ok (.bl (isColl (isExpr r) word w)) m := by
  rw [call_body (fi := f_is_collection.fi) (us := [.str word, w, .int r]) rfl rfl]
  show asRes (evSs (CL k) pd.tx.xn f_is_collection.body [some (.str word), some w, some (.int r), none] m) = _
  simp [f_is_collection, cl_g, cl_c0, isa_lst isaB h]
  unfold isColl
  cases e : lstW w with
  | none => simp [isLst_no e]
  | some xs =>
    have hd := Dat_lstW h e
    have he : ∀ a ∈ xs, Dat m a = true := Dats_iff.mp hd
    simp [isLst_L e, len_L e, src_L e]
    by_cases hx : (4 : Int) < xs.length
    · simp [hx, Int.not_le.mpr]
    · have hx' : (xs.length : Int) ≤ 4 := by omega
      have hx2 : xs.length ≤ 1000 := by omega
      simp [hx, hx']
      by_cases hw : word = "list"
      · simp [hw, src_L e]
        rw [cpItems_each (i := 3) (g := fun a => .bl (isExpr r a)) rfl rfl (fun a ha => by simp [wipeW, ih a (he a ha)])]
        simp [hx2, all_map']
      · simp [hw, src_L e]
        generalize hR : forItems _ _ xs _ m = R
        rcases for_run hR (fun row => match row with
          | .tup [a, b] => isExpr r a && isExpr r b
          | _ => false) (fun σ => ∃ x, σ = [some (.str word), some w, some (.int r), x]) (.bl false) (fun σ x ⟨y, hy⟩ => ⟨some x, by subst hy; rfl⟩) ⟨none, rfl⟩ (by
            rintro row hr σ ⟨y, rfl⟩
            have hrow := he row hr
            simp [isa_tup isaB hrow]
            cases row <;> simp [isTupW]
            rename_i ys
            match ys, hrow with
            | [], _ => simp
            | [a], _ => simp
            | [a, b], hrow =>
              have hab : Dat m a = true ∧ Dat m b = true := by simpa [Dat, Dats] using hrow
              simp [ih a hab.1, ih b hab.2]
              cases isExpr r a <;> cases isExpr r b <;> simp
            | a :: b :: c :: ys, _ => simp; omega) with ⟨ha, σ', p', rfl⟩ | ⟨ha, rfl⟩
        · simp [ha]
        · simp [ha]
theorem glo_OPERATORS (σ : Sl) : eGlo (CL n).gvs g_OPERATORS σ m = .ok (.kt (opsL.map W.str)) m := rfl
theorem is_expression_eq : ∀ (r : Nat) {n : Nat} {m : M} {w : W}, Dat m w = true → pd.tx.call (n + 2 * r + 4) i_is_expression [w, .int r] m = .ok (.bl (isExpr r w)) m := by
  intro r
  induction r with
  | zero =>
    intro n m w h
    rw [call_body (fi := f_is_expression.fi) (us := [w, .int 0]) rfl rfl]
    show asRes (evSs (CL (n + 2)) pd.tx.xn f_is_expression.body [some w, some (.int 0), none] m) = _
    simp [f_is_expression, isExpr]
  | succ r ih =>
    intro n m w h
    have ih1 : ∀ a, Dat m a = true → pd.tx.call (n + 2 * r + 4 + 1) i_is_expression [a, .int r] m = .ok (.bl (isExpr r a)) m := fun a ha => by
      have := ih (n := n + 1) ha
      rw [show n + 1 + 2 * r + 4 = n + 2 * r + 4 + 1 by omega] at this
      exact this
    have ih2 : ∀ word c, Dat m c = true → pd.tx.call (n + 2 * r + 4 + 1) i_is_collection [.str word, c, .int r] m = .ok (.bl (isColl (isExpr r) word c)) m := fun word c hc => by
      rw [show n + 2 * r + 4 + 1 = (n + 2 * r + 3) + 2 by omega]
      exact is_collection_eq (fun a ha => by
        have := ih (n := n) ha
        rw [show n + 2 * r + 4 = n + 2 * r + 3 + 1 by omega] at this
        exact this) hc
    rw [show n + 2 * (r + 1) + 4 = (n + 2 * r + 4) + 2 by omega, call_body (fi := f_is_expression.fi) (us := [w, .int (r + 1 : Nat)]) rfl rfl]
    show asRes (evSs (CL (n + 2 * r + 4)) pd.tx.xn f_is_expression.body [some w, some (.int (r + 1 : Nat)), none] m) = _
    have h0 : ¬ ((r : Int) + 1 = 0) := by omega
    cases hb : begins w with
    | false =>
      simp [f_is_expression, cl_c0, cl_g, begins_with_word_eq h, hb]
      unfold isExpr
      split
      · rename_i e; cases e
      · simp [begins] at hb
      · rfl
    | true =>
      obtain ⟨word, rest, rfl⟩ : ∃ word rest, w = .tup (.str word :: rest) := by
        unfold begins at hb
        split at hb
        · exact ⟨_, _, rfl⟩
        · cases hb
      have hd : Dats m rest = true := by
        have : Dats m (.str word :: rest) = true := by simpa only [Dat] using h
        simp [Dats] at this
        exact this.2
      match rest, hd, h, hb with
      | [], _, h, hb =>
        simp [f_is_expression, cl_c0, cl_g, begins_with_word_eq h, hb, h0, isExpr]
      | [a], hd, h, hb =>
        have ha : Dat m a = true := by simpa [Dats] using hd
        simp [f_is_expression, cl_c0, cl_g, begins_with_word_eq h, hb, h0, isExpr, is_leaf_eq ha, ih1 a ha, ih2 _ a ha]
      | [a, b], hd, h, hb =>
        have hab : Dat m a = true ∧ Dat m b = true := by simpa [Dats] using hd
        simp [f_is_expression, cl_c0, cl_g, begins_with_word_eq h, hb, h0, isExpr, ih1 a hab.1, ih1 b hab.2, is_name_eq hab.2]
      | [a, b, c], hd, h, hb =>
        have hab : Dat m a = true ∧ Dat m b = true ∧ Dat m c = true := by simpa [Dats] using hd
        have hs := isa_str isaB hab.1
        cases ea : a
        case str o =>
          subst ea
          simp [f_is_expression, cl_c0, cl_g, begins_with_word_eq h, hb, h0, isExpr, ih1 b hab.2.1, ih1 c hab.2.2, hs, isStrW, glo_OPERATORS, in_kt]
          cases memS opsL o <;> simp
        all_goals
          subst ea
          simp [f_is_expression, cl_c0, cl_g, begins_with_word_eq h, hb, h0, isExpr, hs, isStrW]
      | a :: b :: c :: d :: rest, hd, h, hb =>
        have e1 : ¬ ((rest.length : Int) + 1 + 1 + 1 + 1 + 1 = 1) := by omega
        have e2 : ¬ ((rest.length : Int) + 1 + 1 + 1 + 1 + 1 = 2) := by omega
        have e3 : ¬ ((rest.length : Int) + 1 + 1 + 1 + 1 + 1 = 3) := by omega
        have e4 : ¬ ((rest.length : Int) + 1 + 1 + 1 + 1 + 1 = 4) := by omega
        simp [f_is_expression, cl_c0, cl_g, begins_with_word_eq h, hb, h0, isExpr, e1, e2, e3, e4]
end
end MPT
end

section
set_option maxHeartbeats 4000000
/-! Spec2: the checks of statements: what they compute. -/
namespace MPT
open PySem PySem.Spec PyProof.Rows L2 MP

section
variable {n : Nat} {m : M} {w : W}
/-- is_expression(part), the depth by default -/
theorem is_expression1_eq (h : Dat m w = true) : pd.tx.call (n + 14) i_is_expression [w] m = .ok (.bl (isExpr 5 w)) m := by
  have e := is_expression_eq 5 (n := n) h
  rw [show n + 2 * 5 + 4 = n + 12 + 2 by omega, call_body (fi := f_is_expression.fi) (us := [w, .int 5]) rfl rfl] at e
  rw [show n + 14 = n + 12 + 2 by omega, call_body (fi := f_is_expression.fi) (us := [w, .int 5]) rfl rfl]
  exact e
def fitsC (c : Nat) (p : W) : Bool := if c = 110 then isName p else if c = 112 then isPhrase p else isExpr 5 p
theorem sign_n (c : Nat) : ((⟨#[c]⟩ : Str) = Str.ofString "n") = (c = 110) := by
  rw [show Str.ofString "n" = ⟨#[110]⟩ by decide +kernel]; simp
theorem sign_p (c : Nat) : ((⟨#[c]⟩ : Str) = Str.ofString "p") = (c = 112) := by
  rw [show Str.ofString "p" = ⟨#[112]⟩ by decide +kernel]; simp
theorem sign_e (c : Nat) : ((⟨#[c]⟩ : Str) = Str.ofString "e") = (c = 101) := by
  rw [show Str.ofString "e" = ⟨#[101]⟩ by decide +kernel]; simp
theorem fits_eq {c : Nat} (h : Dat m w = true) : pd.tx.call (n + 15) i_fits [.str ⟨#[c]⟩, w] m = .ok (.bl (fitsC c w)) m := by
  rw [show n + 15 = n + 13 + 2 by omega, call_body (fi := f_fits.fi) (us := [.str ⟨#[c]⟩, w]) rfl rfl]
  show asRes (evSs (CL (n + 13)) pd.tx.xn f_fits.body [some (.str ⟨#[c]⟩), some w] m) = _
  simp [f_fits, cl_c0, is_name_eq h, is_phrase_eq h, is_expression1_eq h, sign_n, sign_p, fitsC]
def simpleT : List (Str × At) := [("let", .str "ne"), ("set", .str "ne"), ("put", .str "ene"), ("place", .str "eee"), ("add", .str "ee"), ("cut", .str "e"), ("say", .str "e"), ("ask", .str "np"), ("leave", .str ""), ("give", .str "e"), ("raise", .str "e")]
/-- the signs of a simple statement's parts -/
def signsOf (word : Str) : Option Str := match tabGet simpleT word with
  | some (.str z) => some z
  | _ => none
def fitsAll : List Nat → List W → Bool
  | [], [] => true
  | c :: cs, p :: ps => fitsC c p && fitsAll cs ps
  | _, _ => false
def isSimple (word : Str) (rest : List W) : Bool := match signsOf word with
  | some z => fitsAll z.cps.toList rest
  | none => false
theorem kget_SIMPLE (σ : Sl) (rs : Sl → M → Res (List W)) : eKget (CL n) d_SIMPLE rs σ m = (rs σ m).bind (kgetSem simpleT) := rfl
theorem tab_cases (word : Str) : (∃ z, tabGet simpleT word = some (.str z) ∧ z.length ≤ 3 ∧ signsOf word = some z) ∨ (tabGet simpleT word = none ∧ signsOf word = none) := by
  unfold signsOf
  cases e : tabGet simpleT word with
  | none => exact .inr ⟨rfl, rfl⟩
  | some a =>
    have : ∀ p ∈ simpleT, ∃ z, p.2 = .str z ∧ z.length ≤ 3 := by
      intro p hp
      simp only [simpleT, List.mem_cons, List.not_mem_nil, or_false] at hp
      rcases hp with rfl | rfl | rfl | rfl | rfl | rfl | rfl | rfl | rfl | rfl | rfl <;> exact ⟨_, rfl, by decide +kernel⟩
    unfold tabGet at e
    obtain ⟨q, h1, h2⟩ := Option.map_eq_some_iff.mp e
    obtain ⟨z, hz, hl⟩ := this q (List.mem_of_find?_eq_some h1)
    rw [hz] at h2
    subst h2
    exact .inl ⟨z, rfl, hl, rfl⟩
def chr : W → Nat
  | .str z => z.cps.toList.headD 0
  | _ => 0
theorem chr_sign (c : Nat) : chr (.str ⟨#[c]⟩) = c := rfl
theorem fitsAll_zip : ∀ (cs : List Nat) (ps : List W), cs.length = ps.length → ∀ k, fitsAll cs ps = ((cs.map fun c => (W.str ⟨#[c]⟩ : W)).zipIdx k).all fun p => fitsC (chr p.1) (ps.getD (p.2 - k) .non)
  | [], [], _, k => by simp [fitsAll]
  | [], _ :: _, h, _ => by simp at h
  | _ :: _, [], h, _ => by simp at h
  | c :: cs, p :: ps, h, k => by
    have ih := fitsAll_zip cs ps (by simpa using h) (k + 1)
    rw [List.map_cons, List.zipIdx_cons, List.all_cons]
    simp only [fitsAll, Nat.sub_self, List.getD_cons_zero, chr_sign]
    rw [ih]
    congr 1
    rw [Bool.eq_iff_iff]
    simp only [List.all_eq_true]
    have key : ∀ q ∈ (cs.map fun c => (W.str ⟨#[c]⟩ : W)).zipIdx (k + 1), (p :: ps).getD (q.2 - k) .non = ps.getD (q.2 - (k + 1)) .non := by
      intro q hq
      obtain ⟨x, i⟩ := q
      have h1 := (List.mem_zipIdx hq).1
      have : i - k = (i - (k + 1)) + 1 := by omega
      simp only
      rw [this, List.getD_cons_succ]
    constructor
    · intro hh q hq
      rw [key q hq]; exact hh q hq
    · intro hh q hq
      have := hh q hq
      rw [key q hq] at this; exact this
theorem fitsAll_len : ∀ (cs : List Nat) (ps : List W), cs.length ≠ ps.length → fitsAll cs ps = false
  | [], [], h => absurd rfl h
  | [], _ :: _, _ => rfl
  | _ :: _, [], _ => rfl
  | c :: cs, p :: ps, h => by simp [fitsAll, fitsAll_len cs ps (by simpa using h)]
theorem is_simple_eq {word : Str} {rest : List W} (hw : w = .tup (.str word :: rest)) (h : Dat m w = true) : pd.tx.call (n + 16) i_is_simple [w] m = .ok (.bl (isSimple word rest)) m := by
  subst hw
  have hr : ∀ a ∈ rest, Dat m a = true := by
    have : Dats m (.str word :: rest) = true := by simpa only [Dat] using h
    simp [Dats] at this
    exact Dats_iff.mp this.2
  rw [show n + 16 = n + 14 + 2 by omega, call_body (fi := f_is_simple.fi) (us := [.tup (.str word :: rest)]) rfl rfl]
  show asRes (evSs (CL (n + 14)) pd.tx.xn f_is_simple.body [some (.tup (.str word :: rest)), none, none, none] m) = _
  simp [f_is_simple, kget_SIMPLE, kgetSem]
  unfold isSimple
  rcases tab_cases word with ⟨z, e1, e2, e3⟩ | ⟨e1, e3⟩
  · have hz : Dat m (.str z) = true := by simp [Dat]; omega
    simp [e1, e3, At.w, len_str hz, MP.isNon]
    have lz : z.cps.toList.length = z.length := by simp [Str.length]
    by_cases hl : z.length = rest.length
    · have hl' : ((rest.length : Int) + 1 = 1 + (z.length : Int)) := by omega
      simp [hl', srcEnum]
      generalize hR : forItems _ _ _ _ m = R
      rcases for_runE hR (fun q x => fitsC (chr x) (rest.getD q .non)) (fun σ => ∃ x y, σ = [some (.tup (.str word :: rest)), some (.str z), x, y]) (.bl false) (fun σ k x ⟨_, _, hy⟩ => ⟨some (.int k), some x, by subst hy; rfl⟩) ⟨none, none, rfl⟩ (by
        rintro q x hx σ ⟨y1, y2, rfl⟩
        have hx' : (z.cps.toList.map fun c => (W.str ⟨#[c]⟩ : W))[q]? = some x := hx
        rw [List.getElem?_map] at hx'
        obtain ⟨c, hc, rfl⟩ := Option.map_eq_some_iff.mp hx'
        have hq : q < rest.length := by
          have := (List.getElem?_eq_some_iff.mp hc).1
          omega
        obtain ⟨p, hp⟩ : ∃ p, rest[q]? = some p := ⟨_, List.getElem?_eq_getElem hq⟩
        have hat : atI (W.str word :: rest) ((q : Int) + 1) = some p := by
          have := atI_nat (W.str word :: rest) (q + 1)
          rw [show ((q + 1 : Nat) : Int) = (q : Int) + 1 by omega, List.getElem?_cons_succ, hp] at this
          exact this
        have hd : Dat m p = true := hr _ (List.mem_of_getElem? hp)
        simp [cl_c0, hat, fits_eq hd, chr_sign, hp]
        cases fitsC c p <;> simp) with ⟨ha, σ', p', rfl⟩ | ⟨ha, rfl⟩
      · have e := fitsAll_zip z.cps.toList rest (by rw [lz]; exact hl) 0
        have ha' : (((z.cps.toList.map fun c => (W.str ⟨#[c]⟩ : W)).zipIdx 0).all fun p => fitsC (chr p.1) (rest.getD (p.2 - 0) .non)) = true := ha
        rw [e, ha']
        simp
      · have e := fitsAll_zip z.cps.toList rest (by rw [lz]; exact hl) 0
        have ha' : (((z.cps.toList.map fun c => (W.str ⟨#[c]⟩ : W)).zipIdx 0).all fun p => fitsC (chr p.1) (rest.getD (p.2 - 0) .non)) = false := ha
        rw [e, ha']
        simp
    · have hl' : ¬ ((rest.length : Int) + 1 = 1 + (z.length : Int)) := by omega
      rw [fitsAll_len _ _ (by rw [lz]; exact hl)]
      simp [hl']
  · simp [e1, e3, MP.isNon]
/-! ### calls -/
def howsL : List Str := ["let", "set", "drop", "give", "say"]
def isCall : List W → Bool
  | [.str how, nm, e, as] => memS howsL how && (if memS ["let", "set"] how then isName nm else MP.isNon nm) && isExpr 5 e && (match lstW as with
    | some xs => decide ((xs.length : Int) ≤ 3) && allB (isExpr 5) xs
    | none => false)
  | _ => false
theorem glo_HOWS (σ : Sl) : eGlo (CL n).gvs g_HOWS σ m = .ok (.kt (howsL.map W.str)) m := rfl
theorem is_call_eq {word : Str} {rest : List W} (hw : w = .tup (.str word :: rest)) (h : Dat m w = true) : pd.tx.call (n + 16) i_is_call [w] m = .ok (.bl (isCall rest)) m := by
  subst hw
  have hr : ∀ a ∈ rest, Dat m a = true := by
    have : Dats m (.str word :: rest) = true := by simpa only [Dat] using h
    simp [Dats] at this
    exact Dats_iff.mp this.2
  rw [show n + 16 = n + 14 + 2 by omega, call_body (fi := f_is_call.fi) (us := [.tup (.str word :: rest)]) rfl rfl]
  show asRes (evSs (CL (n + 14)) pd.tx.xn f_is_call.body [some (.tup (.str word :: rest)), none] m) = _
  match rest, hr with
  | [], _ => simp [f_is_call, isCall]
  | [a], _ => simp [f_is_call, isCall]
  | [a, b], _ => simp [f_is_call, isCall]
  | [a, b, c], _ => simp [f_is_call, isCall]
  | a :: b :: c :: d :: e :: rest, _ =>
    have e1 : ¬ ((rest.length : Int) + 1 + 1 + 1 + 1 + 1 + 1 = 5) := by omega
    simp [f_is_call, isCall, e1]
  | [a, b, c, d], hr =>
    have ha := hr a (by simp)
    have hb := hr b (by simp)
    have hc := hr c (by simp)
    have hd := hr d (by simp)
    have hs := isa_str isaB ha
    cases ea : a
    case str how =>
      subst ea
      cases ed : lstW d with
      | none =>
        simp [f_is_call, cl_c0, cl_g, hs, isStrW, glo_HOWS, in_kt, is_name_eq hb, is_expression1_eq hc, isa_lst isaB hd, isCall, isLst_no ed, ed]
      | some xs =>
        have hxs : ∀ a ∈ xs, Dat m a = true := Dats_iff.mp (Dat_lstW hd ed)
        by_cases hl : (3 : Int) < xs.length
        · have hl' : ¬ ((xs.length : Int) ≤ 3) := by omega
          simp [f_is_call, cl_c0, cl_g, hs, isStrW, glo_HOWS, in_kt, is_name_eq hb, is_expression1_eq hc, isa_lst isaB hd, isCall, isLst_L ed, ed, len_L ed, hl, hl']
        · have hl' : (xs.length : Int) ≤ 3 := by omega
          have hx2 : xs.length ≤ 1000 := by omega
          have hcp : cpItems { tg := Tg.nm 1, cond := yes, elt := eCall (pd.tx.call (n + 14 + 1) i_is_expression) (eCons (eVar 1) eNil), vs := [1] } [some (.tup [.str word, .str how, b, c, d]), none] xs m = .ok (xs.map fun a => .bl (isExpr 5 a)) m :=
            cpItems_each (i := 1) rfl rfl (fun a ha => by simp [wipeW, is_expression1_eq (n := n + 1) (hxs a ha)])
          simp [f_is_call, cl_c0, cl_g, hs, isStrW, glo_HOWS, in_kt, is_name_eq hb, is_expression1_eq hc, isa_lst isaB hd, isCall, isLst_L ed, ed, len_L ed, hl, hl', src_L ed]
          rw [hcp]
          simp [hx2, all_map']
          cases memS howsL how <;> cases memS ["let", "set"] how <;> cases isName b <;> cases MP.isNon b <;> cases isExpr 5 c <;> simp
    all_goals
      subst ea
      simp [f_is_call, cl_g, isCall, hs, isStrW]
/-! ### parameters -/
def strsOf (xs : List W) : List Str := xs.filterMap isStr
def arePar (w : W) : Bool := match lstW w with
  | some xs => decide ((xs.length : Int) ≤ 3) && allB isName xs && decide ((uq (strsOf xs)).length = xs.length)
  | none => false
theorem strs_names : ∀ {xs : List W}, allB isName xs = true → xs.mapM isStr = some (strsOf xs) ∧ (strsOf xs).length = xs.length
  | [], _ => ⟨rfl, rfl⟩
  | x :: xs, h => by
    rw [allB_cons, Bool.and_eq_true] at h
    obtain ⟨e1, e2⟩ := strs_names h.2
    cases x <;> simp [isName] at h
    rename_i z
    constructor
    · rw [List.mapM_cons, e1]; rfl
    · show ((z :: strsOf xs).length = _); simp [e2]
theorem are_params_eq (h : Dat m w = true) : pd.tx.call (n + 3) i_are_params [w] m = .ok (.bl (arePar w)) m := by
  rw [show n + 3 = n + 1 + 2 by omega, call_body (fi := f_are_params.fi) (us := [w]) rfl rfl]
  show asRes (evSs (CL (n + 1)) pd.tx.xn f_are_params.body [some w, none] m) = _
  unfold arePar
  cases ed : lstW w with
  | none => simp [f_are_params, cl_g, isa_lst isaB h, isLst_no ed]
  | some xs =>
    have hxs : ∀ a ∈ xs, Dat m a = true := Dats_iff.mp (Dat_lstW h ed)
    by_cases hl : (3 : Int) < xs.length
    · have hl' : ¬ ((xs.length : Int) ≤ 3) := by omega
      simp [f_are_params, cl_g, isa_lst isaB h, isLst_L ed, len_L ed, hl, hl']
    · have hl' : (xs.length : Int) ≤ 3 := by omega
      have hx2 : xs.length ≤ 1000 := by omega
      have hcp : cpItems { tg := Tg.nm 1, cond := yes, elt := eCall (pd.tx.call (n + 1 + 1) i_is_name) (eCons (eVar 1) eNil), vs := [1] } [some w, none] xs m = .ok (xs.map fun a => .bl (isName a)) m :=
        cpItems_each (i := 1) rfl rfl (fun a ha => by simp [wipeW, is_name_eq (n := n) (hxs a ha)])
      simp [f_are_params, cl_g, cl_c0, isa_lst isaB h, isLst_L ed, len_L ed, hl, hl', src_L ed]
      rw [hcp]
      simp [hx2, all_map']
      cases hn : allB isName xs with
      | false => simp
      | true =>
        obtain ⟨e1, e2⟩ := strs_names hn
        have e3 : nsetSem w m = .ok (.int (uq (strsOf xs)).length) m := by
          unfold nsetSem
          have : rdL m w = some xs := by cases w <;> simp [lstW] at ed <;> (subst ed; rfl)
          simp only [this, e1]
          rw [if_pos (by rw [e2]; have : scanBound = scanBound := rfl; unfold scanBound; omega)]
        have e4 : (((uq (strsOf xs)).length : Int) == (xs.length : Int)) = decide ((uq (strsOf xs)).length = xs.length) := by
          rw [Bool.eq_iff_iff]; simp; omega
        simp [e3, len_L ed, e4]
/-! ### methods -/
def emptyL (w : W) : Bool := match lstW w with
  | some xs => xs.isEmpty
  | none => true
def methOk (names : List Str) : W → Option Str
  | .tup [.str nm, ps, b] => if (isName (.str nm) && !memS names nm && arePar ps && !emptyL ps && isLstW b) = true then some nm else none
  | _ => none
def areMeth (w : W) : Bool := match lstW w with
  | some xs => decide ((xs.length : Int) ≤ 4) && (runF (fun names x => (methOk names x).map fun nm => names ++ [nm]) [] xs).1
  | none => false
/-- what the look at methods leaves in the memory: the names' list -/
def methJ (w : W) : M := match lstW w with
  | some xs => if (xs.length : Int) ≤ 4 then [some (.lst ((runF (fun names x => (methOk names x).map fun nm => names ++ [nm]) [] xs).2.map W.str))] else []
  | none => []
theorem rdL_ref (m : M) (ss : List W) (y : M) : rdL (m ++ some (.lst ss) :: y) (.ref m.length) = some ss := by
  simp [rdL]
theorem in_ref (neg : Bool) (x : Str) (ss : List Str) (m : M) : inSem neg (.str x) (.ref m.length) (m ++ [some (.lst (ss.map W.str))]) = .ok (.bl (memS ss x != neg)) (m ++ [some (.lst (ss.map W.str))]) := by
  unfold inSem
  simp only [rdL_ref, dat_str, dat_strs, any_str]
theorem are_methods_eq (h : Dat m w = true) : pd.tx.call (n + 4) i_are_methods [w] m = .ok (.bl (areMeth w)) (m ++ methJ w) := by
  rw [show n + 4 = n + 2 + 2 by omega, call_body (fi := f_are_methods.fi) (us := [w]) rfl rfl]
  show asRes (evSs (CL (n + 2)) pd.tx.xn f_are_methods.body [some w, none, none] m) = _
  unfold areMeth methJ
  cases ed : lstW w with
  | none => simp [f_are_methods, cl_g, isa_lst isaB h, isLst_no ed]
  | some xs =>
    have hxs : ∀ a ∈ xs, Dat m a = true := Dats_iff.mp (Dat_lstW h ed)
    by_cases hl : (4 : Int) < xs.length
    · have hl' : ¬ ((xs.length : Int) ≤ 4) := by omega
      simp [f_are_methods, cl_g, isa_lst isaB h, isLst_L ed, len_L ed, hl, hl']
    · have hl' : (xs.length : Int) ≤ 4 := by omega
      simp [f_are_methods, cl_g, cl_c0, isa_lst isaB h, isLst_L ed, len_L ed, hl, hl', src_L ed]
      generalize hR : forItems _ _ xs _ _ = R
      rcases for_fold hR (fun names x => (methOk names x).map fun nm => names ++ [nm]) (fun k (names : List Str) σ m' => ((∃ y, σ = [some w, some (.ref m.length), y]) ∧ names.length = k) ∧ m' = m ++ [some (.lst (names.map W.str))])
        (fun names r => r = .rt (.bl false) (m ++ [some (.lst (names.map W.str))])) [] ⟨⟨⟨none, rfl⟩, rfl⟩, rfl⟩ (by
          rintro k names x σ m' hx ⟨⟨⟨y, rfl⟩, hk⟩, rfl⟩
          have hk4 : names.length ≤ 100000 := by
            have := (List.getElem?_eq_some_iff.mp hx).1
            omega
          have hd := Dat.app (x := [some (.lst (names.map W.str))]) (hxs x (List.mem_of_getElem? hx))
          match x, hd with
          | .tup [.str nm, ps, b], hd =>
            have hps : Dat (m ++ [some (.lst (names.map W.str))]) ps = true := by simp [Dat, Dats] at hd ⊢; exact hd.2.1
            have hnm : Dat (m ++ [some (.lst (names.map W.str))]) (.str nm) = true := by simp [Dat, Dats] at hd ⊢; exact hd.1
            have hb : Dat (m ++ [some (.lst (names.map W.str))]) b = true := by simp [Dat, Dats] at hd ⊢; exact hd.2.2
            cases e1 : isName (.str nm)
            · simp [isa_tup isaB hd, isTupW, is_name_eq hnm, methOk, e1]
            cases e2 : memS names nm
            case true => simp [isa_tup isaB hd, isTupW, is_name_eq hnm, in_ref, methOk, e1, e2]
            cases e3 : arePar ps
            · simp [isa_tup isaB hd, isTupW, is_name_eq hnm, in_ref, are_params_eq hps, methOk, e1, e2, e3]
            cases e4 : lstW ps with
            | none => simp [arePar, e4] at e3
            | some qs =>
              cases qs with
              | nil => simp [isa_tup isaB hd, isTupW, is_name_eq hnm, in_ref, are_params_eq hps, methOk, emptyL, e1, e2, e3, e4, len_L e4]
              | cons q qs =>
                have ne : ¬ ((qs.length : Int) + 1 = 0) := by omega
                cases e5 : isLstW b
                · simp [isa_tup isaB hd, isTupW, is_name_eq hnm, in_ref, are_params_eq hps, isa_lst isaB hb, methOk, emptyL, e1, e2, e3, e4, len_L e4, ne, e5]
                · left
                  refine ⟨names ++ [nm], [some w, some (.ref m.length), some (.tup [.str nm, ps, b])], m ++ [some (.lst ((names ++ [nm]).map W.str))], ?_, ?_, ⟨⟨_, rfl⟩, by simp [hk]⟩, rfl⟩
                  · simp [methOk, emptyL, e1, e2, e3, e4, e5]
                  · simp [isa_tup isaB hd, isTupW, is_name_eq hnm, in_ref, are_params_eq hps, isa_lst isaB hb, methOk, emptyL, e1, e2, e3, e4, len_L e4, ne, e5, tyOk_end, append_end, hk4]
          | .tup [], hd => simp [isa_tup isaB hd, isTupW, methOk]
          | .tup [_], hd => simp [isa_tup isaB hd, isTupW, methOk]
          | .tup [_, _], hd => simp [isa_tup isaB hd, isTupW, methOk]
          | .tup (_ :: _ :: _ :: _ :: ys), hd =>
            have ne : ¬ ((ys.length : Int) + 1 + 1 + 1 + 1 = 3) := by omega
            simp [isa_tup isaB hd, isTupW, methOk, ne]
          | .tup [.non, b, c], hd =>
            have ha : Dat (m ++ [some (.lst (names.map W.str))]) (.non) = true := by simp only [Dat, Dats, Bool.and_eq_true] at hd ⊢ <;> exact hd.1
            simp [isa_tup isaB hd, isTupW, methOk, is_name_eq ha, isName]
          | .tup [.bl z, b, c], hd =>
            have ha : Dat (m ++ [some (.lst (names.map W.str))]) (.bl z) = true := by simp only [Dat, Dats, Bool.and_eq_true] at hd ⊢ <;> exact hd.1
            simp [isa_tup isaB hd, isTupW, methOk, is_name_eq ha, isName]
          | .tup [.int z, b, c], hd =>
            have ha : Dat (m ++ [some (.lst (names.map W.str))]) (.int z) = true := by simp only [Dat, Dats, Bool.and_eq_true] at hd ⊢ <;> exact hd.1
            simp [isa_tup isaB hd, isTupW, methOk, is_name_eq ha, isName]
          | .tup [.tup z, b, c], hd =>
            have ha : Dat (m ++ [some (.lst (names.map W.str))]) (.tup z) = true := by simp only [Dat, Dats, Bool.and_eq_true] at hd ⊢ <;> exact hd.1
            simp [isa_tup isaB hd, isTupW, methOk, is_name_eq ha, isName]
          | .tup [.lst z, b, c], hd =>
            have ha : Dat (m ++ [some (.lst (names.map W.str))]) (.lst z) = true := by simp only [Dat, Dats, Bool.and_eq_true] at hd ⊢ <;> exact hd.1
            simp [isa_tup isaB hd, isTupW, methOk, is_name_eq ha, isName]
          | .tup [.kl z, b, c], hd =>
            have ha : Dat (m ++ [some (.lst (names.map W.str))]) (.kl z) = true := by simp only [Dat, Dats, Bool.and_eq_true] at hd ⊢ <;> exact hd.1
            simp [isa_tup isaB hd, isTupW, methOk, is_name_eq ha, isName]
          | .tup [.ref z, b, c], hd =>
            have ha : Dat (m ++ [some (.lst (names.map W.str))]) (.ref z) = true := by simp only [Dat, Dats, Bool.and_eq_true] at hd ⊢ <;> exact hd.1
            simp [isa_tup isaB hd, isTupW, methOk, is_name_eq ha, isName]
          | .tup [.fn _, b, c], hd => simp [Dat, Dats] at hd
          | .tup [.kt _, b, c], hd => simp [Dat, Dats] at hd
          | .tup [.kd _, b, c], hd => simp [Dat, Dats] at hd
          | .non, hd => simp [isa_tup isaB hd, isTupW, methOk]
          | .bl _, hd => simp [isa_tup isaB hd, isTupW, methOk]
          | .int _, hd => simp [isa_tup isaB hd, isTupW, methOk]
          | .str _, hd => simp [isa_tup isaB hd, isTupW, methOk]
          | .lst _, hd => simp [isa_tup isaB hd, isTupW, methOk]
          | .kl _, hd => simp [isa_tup isaB hd, isTupW, methOk]
          | .ref _, hd => simp [isa_tup isaB hd, isTupW, methOk]
          | .fn _, hd => simp [Dat] at hd
          | .kt _, hd => simp [Dat] at hd
          | .kd _, hd => simp [Dat] at hd) with ⟨ha, σ', m', ⟨_, rfl⟩, rfl⟩ | ⟨ha, rfl⟩
      · simp [ha]
      · simp [ha]
/-! ### try -/
def isTry : List W → Bool
  | [a, nm, b, c] => isLstW a && isLstW b && isLstW c && (match nm with
    | .non => (match lstW b with
      | some xs => xs.isEmpty
      | none => false) && (match lstW c with
      | some xs => !xs.isEmpty
      | none => false)
    | x => isName x)
  | _ => false
theorem is_try_eq {word : Str} {rest : List W} (hw : w = .tup (.str word :: rest)) (h : Dat m w = true) : pd.tx.call (n + 3) i_is_try [w] m = .ok (.bl (isTry rest)) m := by
  subst hw
  have hr : ∀ a ∈ rest, Dat m a = true := by
    have : Dats m (.str word :: rest) = true := by simpa only [Dat] using h
    simp [Dats] at this
    exact Dats_iff.mp this.2
  rw [show n + 3 = n + 1 + 2 by omega, call_body (fi := f_is_try.fi) (us := [.tup (.str word :: rest)]) rfl rfl]
  show asRes (evSs (CL (n + 1)) pd.tx.xn f_is_try.body [some (.tup (.str word :: rest)), none] m) = _
  match rest, hr with
  | [], _ => simp [f_is_try, isTry]
  | [a], _ => simp [f_is_try, isTry]
  | [a, b], _ => simp [f_is_try, isTry]
  | [a, b, c], _ => simp [f_is_try, isTry]
  | a :: b :: c :: d :: e :: rest, _ =>
    have e1 : ¬ ((rest.length : Int) + 1 + 1 + 1 + 1 + 1 + 1 = 5) := by omega
    simp [f_is_try, isTry, e1]
  | [a, nm, b, c], hr =>
    have ha := hr a (by simp)
    have hn := hr nm (by simp)
    have hb := hr b (by simp)
    have hc := hr c (by simp)
    cases eb : lstW b with
    | none => simp [f_is_try, isTry, cpItems, cpTurn, wipeW, tgSem, cl_g, isa_lst isaB ha, isa_lst isaB hb, isa_lst isaB hc, isLst_no eb, allSem, rdL, isBl]
    | some xs =>
      cases ec : lstW c with
      | none => simp [f_is_try, isTry, cpItems, cpTurn, wipeW, tgSem, cl_g, isa_lst isaB ha, isa_lst isaB hb, isa_lst isaB hc, isLst_no ec, allSem, rdL, isBl]
      | some ys =>
        simp [f_is_try, isTry, cpItems, cpTurn, wipeW, tgSem, cl_g, cl_c0, isa_lst isaB ha, isa_lst isaB hb, isa_lst isaB hc, isLst_L eb, isLst_L ec, allSem, rdL, isBl, is_name_eq hn, len_L eb, len_L ec]
        rw [eb, ec]
        cases nm <;> simp [MP.isNon]
        cases xs <;> cases ys <;> simp
/-! ### statements with blocks -/
def isCompound (word : Str) (rest : List W) : Bool :=
  if word = "try" then isTry rest
  else if word = "while" then (match rest with
    | [e, b] => isExpr 5 e && isLstW b
    | _ => false)
  else match rest with
    | [a, b, c] => if word = "if" then isExpr 5 a && isLstW b && isLstW c
      else isName a && (if word = "def" then arePar b && isLstW c else (MP.isNon b || isExpr 5 b) && areMeth c)
    | _ => false
/-- what the look leaves in the memory -/
def compJ (word : Str) (rest : List W) : M :=
  if word = "try" then [] else if word = "while" then [] else match rest with
    | [a, b, c] => if word = "if" then [] else if word = "def" then [] else if isName a && (MP.isNon b || isExpr 5 b) then methJ c else []
    | _ => []
theorem is_compound_eq {word : Str} {rest : List W} (hw : w = .tup (.str word :: rest)) (h : Dat m w = true) : pd.tx.call (n + 16) i_is_compound [w] m = .ok (.bl (isCompound word rest)) (m ++ compJ word rest) := by
  subst hw
  have hr : ∀ a ∈ rest, Dat m a = true := by
    have : Dats m (.str word :: rest) = true := by simpa only [Dat] using h
    simp [Dats] at this
    exact Dats_iff.mp this.2
  have ht := is_try_eq (n := n + 12) rfl h
  rw [show n + 16 = n + 14 + 2 by omega, call_body (fi := f_is_compound.fi) (us := [.tup (.str word :: rest)]) rfl rfl]
  show asRes (evSs (CL (n + 14)) pd.tx.xn f_is_compound.body [some (.tup (.str word :: rest)), none] m) = _
  by_cases h1 : word = "try"
  · subst h1
    simp [f_is_compound, cl_c0, ht, isCompound, compJ]
  by_cases h2 : word = "while"
  · subst h2
    match rest, hr with
    | [], _ => simp [f_is_compound, isCompound, compJ]
    | [a], _ => simp [f_is_compound, isCompound, compJ]
    | [a, b], hr => simp [f_is_compound, isCompound, compJ, cl_c0, cl_g, is_expression1_eq (hr a (by simp)), isa_lst isaB (hr b (by simp))]
    | a :: b :: c :: rest, _ =>
      have e1 : ¬ ((rest.length : Int) + 1 + 1 + 1 + 1 = 3) := by omega
      simp [f_is_compound, isCompound, compJ, e1]
  match rest, hr with
  | [], _ => simp [f_is_compound, isCompound, compJ, h1, h2]
  | [a], _ => simp [f_is_compound, isCompound, compJ, h1, h2]
  | [a, b], _ => simp [f_is_compound, isCompound, compJ, h1, h2]
  | a :: b :: c :: d :: rest, _ =>
    have e1 : ¬ ((rest.length : Int) + 1 + 1 + 1 + 1 + 1 = 4) := by omega
    simp [f_is_compound, isCompound, compJ, h1, h2, e1]
  | [a, b, c], hr =>
    have ha := hr a (by simp)
    have hb := hr b (by simp)
    have hc := hr c (by simp)
    by_cases h3 : word = "if"
    · subst h3
      simp [f_is_compound, isCompound, compJ, cl_c0, cl_g, is_expression1_eq ha, isa_lst isaB hb, isa_lst isaB hc, Bool.and_assoc]
    by_cases h4 : word = "def"
    · subst h4
      simp [f_is_compound, isCompound, compJ, cl_c0, cl_g, is_name_eq ha, are_params_eq hb, isa_lst isaB hc]
    · simp [f_is_compound, isCompound, compJ, cl_c0, cl_g, h1, h2, h3, h4, is_name_eq ha, is_expression1_eq hb, are_methods_eq hc]
      cases isName a <;> cases MP.isNon b <;> cases isExpr 5 b <;> simp
/-! ### statements -/
def isStmt : W → Bool
  | .tup (.str word :: rest) => if memS ["if", "while", "try", "def", "class"] word then isCompound word rest else if word = "call" then isCall rest else isSimple word rest
  | _ => false
def stmtJ : W → M
  | .tup (.str word :: rest) => if memS ["if", "while", "try", "def", "class"] word then compJ word rest else []
  | _ => []
theorem begins_of {w : W} (hb : begins w = true) : ∃ word rest, w = .tup (.str word :: rest) := by
  unfold begins at hb
  split at hb
  · exact ⟨_, _, rfl⟩
  · cases hb
theorem is_statement_eq (h : Dat m w = true) : pd.tx.call (n + 18) i_is_statement [w] m = .ok (.bl (isStmt w)) (m ++ stmtJ w) := by
  rw [show n + 18 = n + 16 + 2 by omega, call_body (fi := f_is_statement.fi) (us := [w]) rfl rfl]
  show asRes (evSs (CL (n + 16)) pd.tx.xn f_is_statement.body [some w] m) = _
  cases hb : begins w with
  | false =>
    have e : isStmt w = false ∧ stmtJ w = [] := by
      unfold isStmt stmtJ
      unfold begins at hb
      split at hb
      · cases hb
      · rename_i hh
        constructor
        · first | rfl | (split <;> first | exact absurd rfl (hh _ _) | rfl)
        · first | rfl | (split <;> first | exact absurd rfl (hh _ _) | rfl)
    simp [f_is_statement, cl_c0, begins_with_word_eq h, hb, e.1, e.2]
  | true =>
    obtain ⟨word, rest, rfl⟩ := begins_of hb
    simp [f_is_statement, cl_c0, begins_with_word_eq h, hb, isStmt, stmtJ, is_compound_eq rfl h, is_call_eq rfl h, is_simple_eq rfl h]
    cases memS ["if", "while", "try", "def", "class"] word <;> simp
/-! ### what stands in a statement -/
def blocksOf : W → List W
  | .tup (.str word :: rest) => if word = "if" then (match rest with
      | [_, b, c] => [b, c]
      | _ => [])
    else if word = "while" then (match rest with
      | [_, b] => [b]
      | _ => [])
    else if word = "try" then (match rest with
      | [a, _, b, c] => [a, b, c]
      | _ => [])
    else if word = "def" then (match rest with
      | [_, _, b] => [b]
      | _ => [])
    else if word = "class" then (match rest with
      | [_, _, ms] => (match lstW ms with
        | some xs => xs.map fun x => match x with
          | .tup [_, _, b] => b
          | _ => .non
        | none => [])
      | _ => [])
    else []
  | _ => []
theorem isStmt_tup {w : W} (h : isStmt w = true) : ∃ word rest, w = .tup (.str word :: rest) := by
  unfold isStmt at h
  split at h
  · exact ⟨_, _, rfl⟩
  · cases h
theorem isMeth_each : ∀ {xs : List W} {names : List Str}, (runF (fun names x => (methOk names x).map fun nm => names ++ [nm]) names xs).1 = true → ∀ x ∈ xs, ∃ nm ps b, x = .tup [.str nm, ps, b] ∧ isName (.str nm) = true ∧ arePar ps = true ∧ isLstW b = true
  | [], _, _, x, hx => by simp at hx
  | y :: xs, names, h, x, hx => by
    simp only [runF] at h
    cases e : methOk names y with
    | none => rw [e] at h; simp at h
    | some nm =>
      rw [e] at h
      rcases List.mem_cons.mp hx with rfl | hx
      · unfold methOk at e
        split at e
        · rename_i nm' ps b
          split at e
          · rename_i hc
            simp only [Bool.and_eq_true] at hc
            exact ⟨nm', ps, b, rfl, hc.1.1.1.1, hc.1.1.2, hc.2⟩
          · cases e
        · cases e
      · exact isMeth_each (xs := xs) h x hx
theorem inner_blocks_eq (hs : isStmt w = true) : pd.tx.call (n + 2) i_inner_blocks [w] m = .ok (.lst (blocksOf w)) m := by
  obtain ⟨word, rest, rfl⟩ := isStmt_tup hs
  rw [call_body (fi := f_inner_blocks.fi) (us := [.tup (.str word :: rest)]) rfl rfl]
  show asRes (evSs (CL n) pd.tx.xn f_inner_blocks.body [some (.tup (.str word :: rest)), none, none] m) = _
  by_cases h1 : word = "if"
  · subst h1
    simp [isStmt, memS, isCompound] at hs
    split at hs
    · simp [f_inner_blocks, blocksOf]
    · cases hs
  by_cases h2 : word = "while"
  · subst h2
    simp [isStmt, memS, isCompound] at hs
    split at hs
    · simp [f_inner_blocks, blocksOf]
    · cases hs
  by_cases h3 : word = "try"
  · subst h3
    simp [isStmt, memS, isCompound, isTry] at hs
    split at hs
    · simp [f_inner_blocks, blocksOf]
    · cases hs
  by_cases h4 : word = "def"
  · subst h4
    simp [isStmt, memS, isCompound] at hs
    split at hs
    · simp [f_inner_blocks, blocksOf]
    · cases hs
  by_cases h5 : word = "class"
  · subst h5
    simp [isStmt, memS, isCompound] at hs
    split at hs
    · rename_i a b c
      simp only [Bool.and_eq_true] at hs
      have hm := hs.2.2
      unfold areMeth at hm
      cases ec : lstW c with
      | none => rw [ec] at hm; cases hm
      | some xs =>
        rw [ec] at hm
        simp only [Bool.and_eq_true, decide_eq_true_eq] at hm
        have he := isMeth_each hm.2
        simp [f_inner_blocks, blocksOf, ec, src_L ec]
        rw [cpItems_each (i := 2) (g := fun x => match x with
          | .tup [_, _, b] => b
          | _ => .non) rfl rfl (fun x hx => by
            obtain ⟨nm, ps, b, rfl, _⟩ := he x hx
            simp [wipeW])]
        have : xs.length ≤ 1000 := by omega
        simp [this]
    · cases hs
  · simp [f_inner_blocks, blocksOf, h1, h2, h3, h4, h5]
end
end MPT
end

section
set_option maxHeartbeats 4000000
/-! Spec3: what stands in statements, where they may stand. -/
namespace MPT
open PySem PySem.Spec PyProof.Rows L2 MP

/-! ### the simple statements, one by one -/
inductive Simple : Str → List W → Prop where
  | let_ {a b : W} : isName a = true → isExpr 5 b = true → Simple "let" [a, b]
  | set_ {a b : W} : isName a = true → isExpr 5 b = true → Simple "set" [a, b]
  | put {a b c : W} : isExpr 5 a = true → isName b = true → isExpr 5 c = true → Simple "put" [a, b, c]
  | place {a b c : W} : isExpr 5 a = true → isExpr 5 b = true → isExpr 5 c = true → Simple "place" [a, b, c]
  | add {a b : W} : isExpr 5 a = true → isExpr 5 b = true → Simple "add" [a, b]
  | cut {a : W} : isExpr 5 a = true → Simple "cut" [a]
  | say {a : W} : isExpr 5 a = true → Simple "say" [a]
  | ask {a b : W} : isName a = true → isPhrase b = true → Simple "ask" [a, b]
  | leave : Simple "leave" []
  | give {a : W} : isExpr 5 a = true → Simple "give" [a]
  | raise {a : W} : isExpr 5 a = true → Simple "raise" [a]
theorem fits1 {z : Str} {c1 : Nat} {rest : List W} (e : z.cps.toList = [c1]) (h : fitsAll z.cps.toList rest = true) : ∃ a, rest = [a] ∧ fitsC c1 a = true := by
  rw [e] at h
  match rest, h with
  | [a], h => exact ⟨a, rfl, by simpa [fitsAll] using h⟩
  | _ :: _ :: _, h => simp [fitsAll] at h
theorem fits2 {z : Str} {c1 c2 : Nat} {rest : List W} (e : z.cps.toList = [c1, c2]) (h : fitsAll z.cps.toList rest = true) : ∃ a b, rest = [a, b] ∧ fitsC c1 a = true ∧ fitsC c2 b = true := by
  rw [e] at h
  match rest, h with
  | [a, b], h => exact ⟨a, b, rfl, by simpa [fitsAll] using h⟩
  | _ :: _ :: _ :: _, h => simp [fitsAll] at h
  | [a], h => simp [fitsAll] at h
theorem fits3 {z : Str} {c1 c2 c3 : Nat} {rest : List W} (e : z.cps.toList = [c1, c2, c3]) (h : fitsAll z.cps.toList rest = true) : ∃ a b c, rest = [a, b, c] ∧ fitsC c1 a = true ∧ fitsC c2 b = true ∧ fitsC c3 c = true := by
  rw [e] at h
  match rest, h with
  | [a, b, c], h => exact ⟨a, b, c, rfl, by simpa [fitsAll] using h⟩
  | _ :: _ :: _ :: _ :: _, h => simp [fitsAll] at h
  | [a], h => simp [fitsAll] at h
  | [a, b], h => simp [fitsAll] at h
theorem simple_of {word : Str} {rest : List W} (h : isSimple word rest = true) : Simple word rest := by
  unfold isSimple at h
  cases e : signsOf word with
  | none => rw [e] at h; cases h
  | some z =>
    rw [e] at h
    have h : fitsAll z.cps.toList rest = true := h
    unfold signsOf at e
    split at e
    · rename_i z' hz
      cases e
      unfold tabGet at hz
      obtain ⟨q, h1, h2⟩ := Option.map_eq_some_iff.mp hz
      have hk : q.1 = word := by simpa using List.find?_some h1
      have hm := List.mem_of_find?_eq_some h1
      simp only [simpleT, List.mem_cons, List.not_mem_nil, or_false] at hm
      rcases hm with rfl | rfl | rfl | rfl | rfl | rfl | rfl | rfl | rfl | rfl | rfl <;> (cases h2; cases hk)
      · obtain ⟨a, b, rfl, x, y⟩ := fits2 (c1 := 110) (c2 := 101) (by decide +kernel) h; exact .let_ x y
      · obtain ⟨a, b, rfl, x, y⟩ := fits2 (c1 := 110) (c2 := 101) (by decide +kernel) h; exact .set_ x y
      · obtain ⟨a, b, c, rfl, x, y, z⟩ := fits3 (c1 := 101) (c2 := 110) (c3 := 101) (by decide +kernel) h; exact .put x y z
      · obtain ⟨a, b, c, rfl, x, y, z⟩ := fits3 (c1 := 101) (c2 := 101) (c3 := 101) (by decide +kernel) h; exact .place x y z
      · obtain ⟨a, b, rfl, x, y⟩ := fits2 (c1 := 101) (c2 := 101) (by decide +kernel) h; exact .add x y
      · obtain ⟨a, rfl, x⟩ := fits1 (c1 := 101) (by decide +kernel) h; exact .cut x
      · obtain ⟨a, rfl, x⟩ := fits1 (c1 := 101) (by decide +kernel) h; exact .say x
      · obtain ⟨a, b, rfl, x, y⟩ := fits2 (c1 := 110) (c2 := 112) (by decide +kernel) h; exact .ask x y
      · have e0 : (Str.ofString "").cps.toList = [] := by decide +kernel
        rw [e0] at h
        cases rest with
        | nil => exact .leave
        | cons _ _ => simp [fitsAll] at h
      · obtain ⟨a, rfl, x⟩ := fits1 (c1 := 101) (by decide +kernel) h; exact .give x
      · obtain ⟨a, rfl, x⟩ := fits1 (c1 := 101) (by decide +kernel) h; exact .raise x
    · cases e
/-! ### the statements with blocks and calls -/
inductive Shape : W → Prop where
  | simple {word : Str} {rest : List W} : Simple word rest → Shape (.tup (.str word :: rest))
  | call {how : Str} {nm e as : W} {xs : List W} : memS howsL how = true → (if memS ["let", "set"] how then isName nm else MP.isNon nm) = true → isExpr 5 e = true → lstW as = some xs → (xs.length : Int) ≤ 3 → allB (isExpr 5) xs = true → Shape (.tup [.str "call", .str how, nm, e, as])
  | if_ {e a b : W} : isExpr 5 e = true → isLstW a = true → isLstW b = true → Shape (.tup [.str "if", e, a, b])
  | while_ {e a : W} : isExpr 5 e = true → isLstW a = true → Shape (.tup [.str "while", e, a])
  | try_ {a nm b c : W} : isTry [a, nm, b, c] = true → Shape (.tup [.str "try", a, nm, b, c])
  | def_ {nm ps b : W} : isName nm = true → arePar ps = true → isLstW b = true → Shape (.tup [.str "def", nm, ps, b])
  | class_ {nm e ms : W} {xs : List W} : isName nm = true → (MP.isNon e || isExpr 5 e) = true → lstW ms = some xs → areMeth ms = true → Shape (.tup [.str "class", nm, e, ms])
theorem shape_of {w : W} (h : isStmt w = true) : Shape w := by
  obtain ⟨word, rest, rfl⟩ := isStmt_tup h
  unfold isStmt at h
  simp only at h
  split at h
  · rename_i hm
    unfold isCompound at h
    split at h
    · rename_i h1
      subst h1
      match rest, h with
      | [a, nm, b, c], h => exact .try_ h
      | [], h => simp [isTry] at h
      | [_], h => simp [isTry] at h
      | [_, _], h => simp [isTry] at h
      | [_, _, _], h => simp [isTry] at h
      | _ :: _ :: _ :: _ :: _ :: _, h => simp [isTry] at h
    · rename_i h1
      split at h
      · rename_i h2
        subst h2
        split at h
        · simp only [Bool.and_eq_true] at h
          exact .while_ h.1 h.2
        · cases h
      · rename_i h2
        split at h
        · rename_i a b c
          split at h
          · rename_i h3
            subst h3
            simp only [Bool.and_eq_true] at h
            exact .if_ h.1.1 h.1.2 h.2
          · rename_i h3
            rw [Bool.and_eq_true] at h
            split at h
            · rename_i h4
              subst h4
              simp only [Bool.and_eq_true] at h
              exact .def_ h.1 h.2.1 h.2.2
            · rename_i h4
              have h5 : word = "class" := by
                simp only [memS, List.any_cons, List.any_nil, Bool.or_eq_true, beq_iff_eq, Bool.or_false] at hm
                rcases hm with z | z | z | z | z
                · exact absurd z.symm h3
                · exact absurd z.symm h2
                · exact absurd z.symm h1
                · exact absurd z.symm h4
                · exact z.symm
              subst h5
              rw [Bool.and_eq_true] at h
              cases ec : lstW c with
              | none => have z := h.2.2; unfold areMeth at z; rw [ec] at z; cases z
              | some xs => exact .class_ h.1 h.2.1 ec h.2.2
        · cases h
  · split at h
    · rename_i _ h1
      subst h1
      unfold isCall at h
      split at h
      · rename_i how nm e as
        simp only [Bool.and_eq_true] at h
        cases ea : lstW as with
        | none => rw [ea] at h; simp at h
        | some xs =>
          rw [ea] at h
          simp only [Bool.and_eq_true, decide_eq_true_eq] at h
          exact .call h.1.1.1 h.1.1.2 h.1.2 ea h.2.1 h.2.2
      · cases h
    · exact .simple (simple_of h)
end MPT
end

section
set_option maxHeartbeats 4000000
/-! Spec4: the parts of expressions, above, where a statement may stand. -/
namespace MPT
open PySem PySem.Spec PyProof.Rows L2 MP

inductive EShape (r : Nat) : W → Prop where
  | con {word : Str} : memS ["none", "yes", "no"] word = true → EShape r (.tup [.str word])
  | leaf {word : Str} {p : W} : memS ["number", "text", "name", "above"] word = true → isLeaf word p = true → EShape r (.tup [.str word, p])
  | un {word : Str} {a : W} : memS ["not", "len", "kind"] word = true → isExpr r a = true → EShape r (.tup [.str word, a])
  | list {c : W} {xs : List W} : lstW c = some xs → (xs.length : Int) ≤ 4 → (∀ x ∈ xs, isExpr r x = true) → EShape r (.tup [.str "list", c])
  | table {c : W} {xs : List W} : lstW c = some xs → (xs.length : Int) ≤ 4 → (∀ x ∈ xs, ∃ a b, x = .tup [a, b] ∧ isExpr r a = true ∧ isExpr r b = true) → EShape r (.tup [.str "table", c])
  | get {a b : W} : isExpr r a = true → isName b = true → EShape r (.tup [.str "get", a, b])
  | at_ {a b : W} : isExpr r a = true → isExpr r b = true → EShape r (.tup [.str "at", a, b])
  | op {o : Str} {a b : W} : memS opsL o = true → isExpr r a = true → isExpr r b = true → EShape r (.tup [.str "op", .str o, a, b])
theorem eshape_of {r : Nat} {w : W} (h : isExpr (r + 1) w = true) : EShape r w := by
  unfold isExpr at h
  split at h
  · rename_i e; cases e
  · rename_i r' word rest e
    cases e
    split at h
    · rename_i hm
      have : rest = [] := by simpa using h
      subst this
      exact .con hm
    · split at h
      · rename_i hm
        split at h
        · exact .leaf hm h
        · cases h
      · split at h
        · rename_i hm
          split at h
          · exact .un hm h
          · cases h
        · split at h
          · rename_i hm
            split at h
            · rename_i c
              unfold isColl at h
              cases ec : lstW c with
              | none => rw [ec] at h; cases h
              | some xs =>
                rw [ec] at h
                simp only [Bool.and_eq_true, decide_eq_true_eq] at h
                by_cases hl : word = "list"
                · subst hl
                  simp only [if_true] at h
                  exact .list ec h.1 (allB_iff.mp h.2)
                · have ht : word = "table" := by
                    simp only [memS, List.any_cons, List.any_nil, Bool.or_eq_true, beq_iff_eq, Bool.or_false] at hm
                    rcases hm with z | z
                    · exact absurd z.symm hl
                    · exact z.symm
                  rw [if_neg hl] at h
                  subst ht
                  refine .table ec h.1 fun x hx => ?_
                  have q := allB_iff.mp h.2 x hx
                  split at q
                  · rename_i a b
                    rw [Bool.and_eq_true] at q
                    exact ⟨a, b, rfl, q.1, q.2⟩
                  · cases q
            · cases h
          · split at h
            · rename_i hg
              subst hg
              split at h
              · rw [Bool.and_eq_true] at h
                exact .get h.1 h.2
              · cases h
            · split at h
              · rename_i hg
                subst hg
                split at h
                · rw [Bool.and_eq_true] at h
                  exact .at_ h.1 h.2
                · cases h
              · split at h
                · rename_i hg
                  subst hg
                  split at h
                  · simp only [Bool.and_eq_true] at h
                    exact .op h.1.1 h.1.2 h.2
                  · cases h
                · cases h
  · cases h
def partsOf : W → List W
  | .tup [.str word, a] => if memS ["not", "len", "kind"] word then [a] else if word = "list" then (lstW a).getD [] else if word = "table" then ((lstW a).getD []).flatMap (fun x => match x with
      | .tup ys => ys
      | _ => []) else []
  | .tup [.str word, a, b] => if word = "get" then [a] else if word = "at" then [a, b] else []
  | .tup [.str _, _, a, b] => [a, b]
  | _ => []
theorem mem_kind {ss : List Str} {x : Str} (h : memS ss x = true) : x ∈ ss := by
  simp only [memS, List.any_eq_true, beq_iff_eq] at h
  obtain ⟨y, hy, rfl⟩ := h
  exact hy
theorem rdL_L {m : M} {w : W} {xs : List W} (e : lstW w = some xs) : rdL m w = some xs := by cases w <;> simp [lstW] at e <;> (subst e; rfl)
theorem list_L {m : M} {w : W} {xs : List W} (e : lstW w = some xs) (h : xs.length ≤ 1000) : listSem true w m = .ok (.lst xs) m := by
  unfold listSem; rw [rdL_L e]; simp [h]
section
variable {n : Nat} {m : M} {w : W}
theorem parts_eq {r : Nat} (h : isExpr (r + 1) w = true) : pd.tx.call (n + 2) i_parts [w] m = .ok (.lst (partsOf w)) m := by
  rw [call_body (fi := f_parts.fi) (us := [w]) rfl rfl]
  show asRes (evSs (CL n) pd.tx.xn f_parts.body [some w, none, none, none] m) = _
  cases eshape_of h with
  | con hm =>
    have := mem_kind hm
    simp only [List.mem_cons, List.not_mem_nil, or_false] at this
    rcases this with rfl | rfl | rfl <;> simp [f_parts, partsOf, memS]
  | leaf hm hl =>
    have := mem_kind hm
    simp only [List.mem_cons, List.not_mem_nil, or_false] at this
    rcases this with rfl | rfl | rfl | rfl <;> simp [f_parts, partsOf, memS]
  | un hm hl =>
    have := mem_kind hm
    simp only [List.mem_cons, List.not_mem_nil, or_false] at this
    rcases this with rfl | rfl | rfl <;> simp [f_parts, partsOf, memS]
  | @list c xs ec hl he =>
    have : xs.length ≤ 1000 := by omega
    simp [f_parts, partsOf, memS, ec, list_L ec this]
  | @table c xs ec hl he =>
    simp [f_parts, partsOf, memS, ec, src_L ec, eComp2, cp2All]
    rw [cp2Items_flat (g := fun x => match x with
      | .tup ys => ys
      | _ => []) (fun x hx => by
        obtain ⟨a, b, rfl, _⟩ := he x hx
        simp [cp2Turn, wipeW, tgSem, cpItems, cpTurn])]
    have hlen : (xs.flatMap fun x => match x with
      | .tup ys => ys
      | _ => []).length = 2 * xs.length := by
      clear ec hl h
      induction xs with
      | nil => rfl
      | cons x xs ih =>
        obtain ⟨a, b, rfl, _⟩ := he x (List.mem_cons_self ..)
        rw [List.flatMap_cons, List.length_append, ih fun y hy => he y (List.mem_cons_of_mem _ hy)]
        simp; omega
    have h2 : (xs.flatMap fun x => match x with
      | .tup ys => ys
      | _ => []).length ≤ 1000 := by rw [hlen]; omega
    simp only [Res.bind_ok, mkLst_frz _ _ h2]
    simp
  | get ha hb => simp [f_parts, partsOf, memS]
  | at_ ha hb => simp [f_parts, partsOf, memS]
  | op ho ha hb => simp [f_parts, partsOf, memS]
def usesAbove : Nat → W → Bool
  | 0, _ => false
  | r + 1, w => (match w with
    | .tup (.str word :: _) => decide (word = "above")
    | _ => false) || anyB (usesAbove r) (partsOf w)
theorem parts_expr {r : Nat} (h : isExpr (r + 1) w = true) : (partsOf w).length ≤ 8 ∧ ∀ x ∈ partsOf w, isExpr r x = true := by
  cases eshape_of h with
  | con hm => exact ⟨by simp [partsOf], by simp [partsOf]⟩
  | leaf hm hl =>
    have := mem_kind hm
    simp only [List.mem_cons, List.not_mem_nil, or_false] at this
    rcases this with rfl | rfl | rfl | rfl <;> simp [partsOf, memS]
  | un hm hl =>
    have := mem_kind hm
    simp only [List.mem_cons, List.not_mem_nil, or_false] at this
    rcases this with rfl | rfl | rfl <;> simpa [partsOf, memS] using hl
  | @list c xs ec hl he =>
    simp [partsOf, memS, ec]
    exact ⟨by omega, he⟩
  | @table c xs ec hl he =>
    have hlen : ∀ ys : List W, (∀ x ∈ ys, ∃ a b, x = .tup [a, b] ∧ isExpr r a = true ∧ isExpr r b = true) → (ys.flatMap fun x => match x with
      | .tup ys => ys
      | _ => []).length = 2 * ys.length ∧ ∀ z ∈ (ys.flatMap fun x => match x with
      | .tup ys => ys
      | _ => []), isExpr r z = true := by
      intro ys
      induction ys with
      | nil => intro _; simp
      | cons x ys ih =>
        intro hh
        obtain ⟨a, b, rfl, h1, h2⟩ := hh x (List.mem_cons_self ..)
        obtain ⟨i1, i2⟩ := ih fun y hy => hh y (List.mem_cons_of_mem _ hy)
        constructor
        · rw [List.flatMap_cons, List.length_append, i1]; simp; omega
        · intro z hz
          rw [List.flatMap_cons, List.mem_append] at hz
          rcases hz with hz | hz
          · simp only [List.mem_cons, List.not_mem_nil, or_false] at hz
            rcases hz with rfl | rfl
            · exact h1
            · exact h2
          · exact i2 z hz
    obtain ⟨i1, i2⟩ := hlen xs he
    have e : partsOf (.tup [.str "table", c]) = xs.flatMap fun x => match x with
      | .tup ys => ys
      | _ => [] := by simp [partsOf, memS, ec]
    rw [e]
    exact ⟨by omega, i2⟩
  | get ha hb => simpa [partsOf, memS] using ha
  | at_ ha hb => simp [partsOf, memS, ha, hb]
  | op ho ha hb => simp [partsOf, memS, ha, hb]
theorem uses_above_eq : ∀ (r : Nat) {n : Nat} {w : W}, isExpr r w = true → pd.tx.call (n + r + 3) i_uses_above [w] m = .ok (.bl (usesAbove r w)) m := by
  intro r
  induction r with
  | zero => intro n w h; simp [isExpr] at h
  | succ r ih =>
    intro n w h
    rw [show n + (r + 1) + 3 = n + r + 2 + 2 by omega, call_body (fi := f_uses_above.fi) (us := [w]) rfl rfl]
    show asRes (evSs (CL (n + r + 2)) pd.tx.xn f_uses_above.body [some w, none] m) = _
    obtain ⟨hl, he⟩ := parts_expr h
    have hp := parts_eq (n := n + r + 1) (m := m) h
    have hcp : cpItems { tg := Tg.nm 1, cond := yes, elt := eCall (pd.tx.call (n + r + 2 + 1) i_uses_above) (eCons (eVar 1) eNil), vs := [1] } [some w, none] (partsOf w) m = .ok ((partsOf w).map fun a => .bl (usesAbove r a)) m :=
      cpItems_each (i := 1) rfl rfl (fun a ha => by simp [wipeW, ih (n := n) (he a ha)])
    obtain ⟨word, rest, rfl⟩ : ∃ word rest, w = .tup (.str word :: rest) := by
      cases eshape_of h <;> exact ⟨_, _, rfl⟩
    have hl2 : (partsOf (.tup (.str word :: rest))).length ≤ 1000 := by omega
    simp [f_uses_above, cl_c0, hp]
    rw [hcp]
    simp [hl2, any_map', usesAbove]
/-! ### the whole expressions of a statement -/
def exprsOf : W → List W
  | .tup [.str word] => []
  | .tup [.str word, a] => [a]
  | .tup [.str word, a, b] => if memS ["let", "set"] word then [b] else if word = "add" then [a, b] else if word = "while" then [a] else []
  | .tup [.str word, a, b, c] => if word = "put" then [a, c] else if word = "place" then [a, b, c] else if word = "if" then [a] else if word = "class" then (if MP.isNon b then [] else [b]) else []
  | .tup [.str word, _, _, e, as] => if word = "call" then e :: (lstW as).getD [] else []
  | _ => []
theorem exprs_ok (h : isStmt w = true) : (exprsOf w).length ≤ 4 ∧ ∀ x ∈ exprsOf w, isExpr 5 x = true := by
  cases shape_of h with
  | simple hs => cases hs <;> simp_all [exprsOf, memS]
  | call h1 h2 h3 h4 h5 h6 =>
    have h6 := allB_iff.mp h6
    simp [exprsOf, h4]
    exact ⟨by omega, h3, h6⟩
  | if_ h1 h2 h3 => simp [exprsOf, h1]
  | while_ h1 h2 => simp [exprsOf, memS, h1]
  | try_ h1 => simp [exprsOf]
  | def_ h1 h2 h3 => simp [exprsOf]
  | class_ h1 h2 h3 h4 =>
    simp only [exprsOf]
    cases e : MP.isNon _ <;> simp_all
theorem tab_let : tabGet simpleT (Str.ofString "let") = some (.str (Str.ofString "ne")) := by kernel_rfl
theorem tab_set : tabGet simpleT (Str.ofString "set") = some (.str (Str.ofString "ne")) := by kernel_rfl
theorem tab_put : tabGet simpleT (Str.ofString "put") = some (.str (Str.ofString "ene")) := by kernel_rfl
theorem tab_place : tabGet simpleT (Str.ofString "place") = some (.str (Str.ofString "eee")) := by kernel_rfl
theorem tab_add : tabGet simpleT (Str.ofString "add") = some (.str (Str.ofString "ee")) := by kernel_rfl
theorem tab_cut : tabGet simpleT (Str.ofString "cut") = some (.str (Str.ofString "e")) := by kernel_rfl
theorem tab_say : tabGet simpleT (Str.ofString "say") = some (.str (Str.ofString "e")) := by kernel_rfl
theorem tab_ask : tabGet simpleT (Str.ofString "ask") = some (.str (Str.ofString "np")) := by kernel_rfl
theorem tab_leave : tabGet simpleT (Str.ofString "leave") = some (.str (Str.ofString "")) := by kernel_rfl
theorem tab_give : tabGet simpleT (Str.ofString "give") = some (.str (Str.ofString "e")) := by kernel_rfl
theorem tab_raise : tabGet simpleT (Str.ofString "raise") = some (.str (Str.ofString "e")) := by kernel_rfl
theorem tab_try : tabGet simpleT (Str.ofString "try") = none := by kernel_rfl
theorem tab_def : tabGet simpleT (Str.ofString "def") = none := by kernel_rfl
theorem prs_ne : pairs (signs (Str.ofString "ne")) = [.tup [.int 0, .str ⟨#[110]⟩], .tup [.int 1, .str ⟨#[101]⟩]] := by kernel_rfl
theorem prs_ene : pairs (signs (Str.ofString "ene")) = [.tup [.int 0, .str ⟨#[101]⟩], .tup [.int 1, .str ⟨#[110]⟩], .tup [.int 2, .str ⟨#[101]⟩]] := by kernel_rfl
theorem prs_eee : pairs (signs (Str.ofString "eee")) = [.tup [.int 0, .str ⟨#[101]⟩], .tup [.int 1, .str ⟨#[101]⟩], .tup [.int 2, .str ⟨#[101]⟩]] := by kernel_rfl
theorem prs_ee : pairs (signs (Str.ofString "ee")) = [.tup [.int 0, .str ⟨#[101]⟩], .tup [.int 1, .str ⟨#[101]⟩]] := by kernel_rfl
theorem prs_e : pairs (signs (Str.ofString "e")) = [.tup [.int 0, .str ⟨#[101]⟩]] := by kernel_rfl
theorem prs_np : pairs (signs (Str.ofString "np")) = [.tup [.int 0, .str ⟨#[110]⟩], .tup [.int 1, .str ⟨#[112]⟩]] := by kernel_rfl
theorem prs_nil : pairs (signs (Str.ofString "")) = [] := by kernel_rfl
theorem expressions_of_eq (h : isStmt w = true) : pd.tx.call (n + 2) i_expressions_of [w] m = .ok (.lst (exprsOf w)) m := by
  rw [call_body (fi := f_expressions_of.fi) (us := [w]) rfl rfl]
  show asRes (evSs (CL n) pd.tx.xn f_expressions_of.body [some w, none, none, none, none, none] m) = _
  have tg : ∀ word, tabGet simpleT word = tabGet simpleT word := fun _ => rfl
  cases shape_of h with
  | simple hs =>
    cases hs
    all_goals simp [f_expressions_of, exprsOf, memS, kget_SIMPLE, kgetSem, tab_let, tab_set, tab_put, tab_place, tab_add, tab_cut, tab_say, tab_ask, tab_leave, tab_give, tab_raise, tab_try, tab_def, At.w, srcEnum, prs_ne, prs_ene, prs_eee, prs_ee, prs_e, prs_np, prs_nil, cpItems, cpTurn, tgSem, setAll, wipeW, sign_e]
  | @call how nm e as xs h1 h2 h3 h4 h5 h6 =>
    have hl : xs.length ≤ 1000 := by omega
    have hl2 : xs.length + 1 ≤ 1000 := by omega
    simp [f_expressions_of, exprsOf, h4, list_L h4 hl, binSem, addSem, lstOf, hl2]
  | if_ h1 h2 h3 => simp [f_expressions_of, exprsOf, memS]
  | while_ h1 h2 => simp [f_expressions_of, exprsOf, memS]
  | try_ h1 => simp [f_expressions_of, exprsOf, memS, kget_SIMPLE, kgetSem, tab_try, tab_def, srcEnum, prs_nil, cpItems]
  | def_ h1 h2 h3 => simp [f_expressions_of, exprsOf, memS, kget_SIMPLE, kgetSem, tab_try, tab_def, srcEnum, prs_nil, cpItems]
  | @class_ nm e ms xs h1 h2 h3 h4 =>
    cases en : MP.isNon e <;> simp [f_expressions_of, exprsOf, memS, cpItems, cpTurn, wipeW, tgSem, en]
/-! ### where it may stand -/
def headIs (w : W) (x : Str) : Bool := match w with
  | .tup (.str word :: _) => decide (word = x)
  | _ => false
def misplaced (w : W) (depth : Int) (within : Bool) (kind : Str) : Bool :=
  (headIs w "leave" && !within) || (decide (kind = "top") && (headIs w "give" || (headIs w "call" && (match w with
    | .tup (_ :: .str how :: _) => decide (how = "give")
    | _ => false)))) || (!decide (kind = "method") && anyB (usesAbove 5) (exprsOf w)) || (decide (8 ≤ depth) && !(blocksOf w).isEmpty)
theorem glo_DEPTH (σ : Sl) : eGlo (CL n).gvs g_MOST_BLOCK_DEPTH σ m = .ok (.int 8) m := rfl
theorem is_misplaced_eq {depth : Int} {within : Bool} {kind : Str} (h : isStmt w = true) : pd.tx.call (n + 12) i_is_misplaced [w, .int depth, .bl within, .str kind] m = .ok (.bl (misplaced w depth within kind)) m := by
  rw [show n + 12 = n + 10 + 2 by omega, call_body (fi := f_is_misplaced.fi) (us := [w, .int depth, .bl within, .str kind]) rfl rfl]
  show asRes (evSs (CL (n + 10)) pd.tx.xn f_is_misplaced.body [some w, some (.int depth), some (.bl within), some (.str kind), none, none] m) = _
  obtain ⟨hl, he⟩ := exprs_ok h
  have hl2 : (exprsOf w).length ≤ 1000 := by omega
  have hx := expressions_of_eq (n := n + 9) (m := m) h
  have hb := inner_blocks_eq (n := n + 9) (m := m) h
  have hcp : ∀ word, cpItems { tg := Tg.nm 5, cond := yes, elt := eCall (pd.tx.call (n + 10 + 1) i_uses_above) (eCons (eVar 5) eNil), vs := [5] } [some w, some (.int depth), some (.bl within), some (.str kind), some (.str word), none] (exprsOf w) m = .ok ((exprsOf w).map fun a => .bl (usesAbove 5 a)) m := fun word =>
    cpItems_each (i := 5) rfl rfl (fun a ha => by simp [wipeW, uses_above_eq 5 (n := n + 3) (he a ha)])
  obtain ⟨word, rest, rfl⟩ := isStmt_tup h
  have hbl : (decide (0 < ((blocksOf (.tup (.str word :: rest))).length : Int))) = !(blocksOf (.tup (.str word :: rest))).isEmpty := by
    cases blocksOf (.tup (.str word :: rest)) with
    | nil => rfl
    | cons _ _ => simp
  by_cases hc : word = "call"
  · obtain ⟨how, r, rfl⟩ : ∃ how r, rest = .str how :: r := by
      cases shape_of h with
      | simple hs => cases hs <;> simp at hc
      | call => exact ⟨_, _, rfl⟩
      | if_ => simp at hc
      | while_ => simp at hc
      | try_ => simp at hc
      | def_ => simp at hc
      | class_ => simp at hc
    subst hc
    simp [f_is_misplaced, cl_c0, hx, hb, hcp, hl2, any_map', glo_DEPTH, misplaced, headIs]
    by_cases h1 : kind = "top" <;> by_cases h2 : how = "give" <;> by_cases h3 : kind = "method" <;> cases anyB (usesAbove 5) (exprsOf (.tup (.str "call" :: .str how :: r))) <;> simp_all
  · simp [f_is_misplaced, cl_c0, hx, hb, hcp, hl2, any_map', glo_DEPTH, misplaced, headIs, hc]
    by_cases h0 : word = "leave" <;> cases within <;> by_cases h1 : kind = "top" <;> by_cases h2 : word = "give" <;> by_cases h3 : kind = "method" <;> cases anyB (usesAbove 5) (exprsOf (.tup (.str word :: rest))) <;> simp_all
end
end MPT
end

section
set_option maxHeartbeats 4000000
/-! Spec5: the check of a block. -/
namespace MPT
open PySem PySem.Spec PyProof.Rows L2 MP

def pathW (p : List Nat) : W := .tup (p.map fun (k : Nat) => .int (k : Int))
def withinIn (w : W) (within : Bool) : Bool := if headIs w "def" || headIs w "class" then false else within || headIs w "while"
def kindIn (w : W) (kind : Str) : Str := if headIs w "def" then "def" else if headIs w "class" then "method" else kind
section
variable {n : Nat} {m : M} {w : W}
theorem within_inner_eq {within : Bool} (h : isStmt w = true) : pd.tx.call (n + 2) i_within_inner [w, .bl within] m = .ok (.bl (withinIn w within)) m := by
  rw [call_body (fi := f_within_inner.fi) (us := [w, .bl within]) rfl rfl]
  show asRes (evSs (CL n) pd.tx.xn f_within_inner.body [some w, some (.bl within)] m) = _
  obtain ⟨word, rest, rfl⟩ := isStmt_tup h
  simp [f_within_inner, withinIn, headIs, memS_cons, memS_nil]
  by_cases h1 : word = "def" <;> by_cases h2 : word = "class" <;> cases within <;> simp_all
  all_goals (rw [Bool.eq_iff_iff]; simp)
theorem inner_kind_eq {kind : Str} (h : isStmt w = true) : pd.tx.call (n + 2) i_inner_kind [w, .str kind] m = .ok (.str (kindIn w kind)) m := by
  rw [call_body (fi := f_inner_kind.fi) (us := [w, .str kind]) rfl rfl]
  show asRes (evSs (CL n) pd.tx.xn f_inner_kind.body [some w, some (.str kind)] m) = _
  obtain ⟨word, rest, rfl⟩ := isStmt_tup h
  simp [f_inner_kind, kindIn, headIs]
  by_cases h1 : word = "def" <;> by_cases h2 : word = "class" <;> simp_all
end
/-- the check of a block: how many statements, or the path of the first faulty one -/
def chkBlock : Nat → List W → List Nat → Bool → Str → Nat → Except (List Nat) Nat
  | 0, _, _, _, _, many => .ok many
  | f + 1, block, place, within, kind, before =>
    runX (fun many i st => if i = 12 ∨ many = 80 ∨ isStmt st = false then .error (place ++ [i]) else if misplaced st ((place.length : Int) / 2 + 1) within kind = true then .error (place ++ [i]) else
      runX (fun many k b => chkBlock f ((lstW b).getD []) (place ++ [i, k]) (withinIn st within) (kindIn st kind) many) (many + 1) 0 (blocksOf st)) before 0 block
/-- the end of a check in the memory -/
def ChkEnd (m : M) (r : Res W) : Except (List Nat) Nat → Prop
  | .ok many => ∃ J, r = .ok (.int many) (m ++ J)
  | .error p => ∃ J, r = .exc k_NoProgram [(a_path, pathW p)] (m ++ J)
theorem blocks_dat {m : M} {w : W} (h : isStmt w = true) (hd : Dat m w = true) : ∀ b ∈ blocksOf w, Dat m b = true ∧ isLstW b = true := by
  cases shape_of h with
  | simple hs => cases hs <;> simp [blocksOf]
  | call => simp [blocksOf]
  | if_ h1 h2 h3 => simp [blocksOf, Dat, Dats] at hd ⊢; exact ⟨⟨hd.2.2.1, h2⟩, hd.2.2.2, h3⟩
  | while_ h1 h2 => simp [blocksOf, Dat, Dats] at hd ⊢; exact ⟨hd.2.2, h2⟩
  | try_ h1 =>
    simp [isTry] at h1
    simp [blocksOf, Dat, Dats] at hd ⊢
    exact ⟨⟨hd.2.1, h1.1.1.1⟩, ⟨hd.2.2.2.1, h1.1.1.2⟩, hd.2.2.2.2, h1.1.2⟩
  | def_ h1 h2 h3 => simp [blocksOf, Dat, Dats] at hd ⊢; exact ⟨hd.2.2.2, h3⟩
  | @class_ nm e ms xs h1 h2 h3 h4 =>
    intro b hb
    simp [blocksOf, h3] at hb
    obtain ⟨x, hx, rfl⟩ := hb
    unfold areMeth at h4
    rw [h3] at h4
    simp only [Bool.and_eq_true] at h4
    obtain ⟨nm, ps, b, rfl, _, _, h5⟩ := isMeth_each h4.2 x hx
    have hm : Dat m ms = true := by simp [Dat, Dats] at hd; exact hd.2.2.2
    have := Dats_iff.mp (Dat_lstW hm h3) _ hx
    simp [Dat, Dats] at this
    exact ⟨this.2.2, h5⟩
theorem glo_INB {n : Nat} {m : M} (σ : Sl) : eGlo (CL n).gvs g_MOST_IN_BLOCK σ m = .ok (.int 12) m := rfl
theorem glo_MOST {n : Nat} {m : M} (σ : Sl) : eGlo (CL n).gvs g_MOST_STATEMENTS σ m = .ok (.int 80) m := rfl
theorem sRaise_path (σ : Sl) (m : M) (r : Sl → M → Res W) : sRaiseF pd.tx.xn k_NoProgram a_path r σ m = thenS σ (r σ m) fun w m1 => .ex σ k_NoProgram [(a_path, w)] m1 := rfl
theorem len_path (p : List Nat) (m : M) : lenSem (pathW p) m = .ok (.int p.length) m := by simp [pathW]
theorem path_add (frz : Bool) (p : List Nat) (k : Nat) (m : M) (h : p.length ≤ 900) : binSem frz .add (pathW p) (.tup [.int (k : Int)]) m = .ok (pathW (p ++ [k])) m := by
  unfold pathW
  rw [add_tup _ _ _ _ (by simp; omega)]
  simp
theorem pathW_app (p : List Nat) (k : Nat) : (p.map fun (k : Nat) => W.int (k : Int)) ++ [.int (k : Int)] = (p ++ [k]).map fun (k : Nat) => W.int (k : Int) := by simp
theorem check_step (f j : Nat) {n : Nat} (hf : f + 1 + j = 8) (hrec : f ≠ 0 → ∀ {m : M} {w : W} {block : List W} {place : List Nat} {within : Bool} {kind : Str} {before : Nat}, place.length = 2 * (j + 1) → lstW w = some block → Dats m block = true →
      ChkEnd m (pd.tx.call (n + f + 20) i_check_block [w, pathW place, .bl within, .str kind, .int before] m) (chkBlock f block place within kind before))
    {m : M} {w : W} {block : List W} {place : List Nat} {within : Bool} {kind : Str} {before : Nat} (hp : place.length = 2 * j) (hw : lstW w = some block) (hd : Dats m block = true) :
    ChkEnd m (pd.tx.call (n + f + 21) i_check_block [w, pathW place, .bl within, .str kind, .int before] m) (chkBlock (f + 1) block place within kind before) := by
  rw [show n + f + 21 = n + f + 19 + 2 by omega, call_body (fi := f_check_block.fi) (us := [w, pathW place, .bl within, .str kind, .int before]) rfl rfl]
  show ChkEnd m (asRes (evSs (CL (n + f + 19)) pd.tx.xn f_check_block.body [some w, some (pathW place), some (.bl within), some (.str kind), some (.int before), none, none, none, none, none, none, none, none] m)) _
  have hdv : ((place.length : Int) / 2 + 1) = ((place.length / 2 + 1 : Nat) : Int) := by omega
  simp [f_check_block, cl_c0, len_path, fdiv_int, enum_L hw]
  generalize hR : forItems _ _ (pairs block) _ _ = R
  have key := for_runX hR (fun many i st => if i = 12 ∨ many = 80 ∨ isStmt st = false then .error (place ++ [i]) else if misplaced st ((place.length : Int) / 2 + 1) within kind = true then .error (place ++ [i]) else
      runX (fun many k b => chkBlock f ((lstW b).getD []) (place ++ [i, k]) (withinIn st within) (kindIn st kind) many) (many + 1) 0 (blocksOf st))
    (fun many σ m' => (∃ x7 x8 x9 x10 x11 x12, σ = [some w, some (pathW place), some (.bl within), some (.str kind), some (.int before), some (.int ((place.length : Int) / 2 + 1)), some (.int (many : Nat)), x7, x8, x9, x10, x11, x12]) ∧ ∃ J, m' = m ++ J)
    (fun p r => ∃ σ J, r = .ex σ k_NoProgram [(a_path, pathW p)] (m ++ J)) (fun e r ⟨σ, J, hr⟩ hg => by
      subst hr
      rcases hg with ⟨_, _, z⟩ | ⟨_, _, z⟩ <;> cases z) before ⟨⟨none, none, none, none, none, none, rfl⟩, [], by simp⟩ (by
      rintro many q st σ m' hq ⟨⟨x7, x8, x9, x10, x11, x12, rfl⟩, J, rfl⟩
      have hst : Dat (m ++ J) st = true := Dat.app J (Dats_iff.mp hd st (List.mem_of_getElem? hq))
      have hpl : place.length ≤ 900 := by omega
      have hpl1 : place.length + 1 ≤ 900 := by omega
      by_cases h12 : q = 12
      · have h12' : (q : Int) = 12 := by omega
        rw [if_pos (.inl h12)]
        have hp12 : binSem true BOp.add (pathW place) (.tup [.int 12]) (m ++ J) = .ok (pathW (place ++ [12])) (m ++ J) := path_add true place 12 (m ++ J) hpl
        simp [hp12, glo_INB, sRaise_path, LoopEnd, h12']
        rw [h12]
      have h12' : ¬ ((q : Int) = 12) := by omega
      by_cases h80 : many = 80
      · have h80' : (many : Int) = 80 := by omega
        rw [if_pos (.inr (.inl h80))]
        simp [path_add _ _ _ _ hpl, glo_INB, glo_MOST, sRaise_path, LoopEnd, h12', h80']
      have h80' : ¬ ((many : Int) = 80) := by omega
      cases hs : isStmt st with
      | false =>
        rw [if_pos (.inr (.inr rfl))]
        simp [path_add _ _ _ _ hpl, glo_INB, glo_MOST, sRaise_path, LoopEnd, h12', h80', is_statement_eq (n := n + f + 2) hst, hs]
      | true =>
        rw [if_neg (by simp [h12, h80])]
        have hmi : ∀ m', pd.tx.call (n + f + 19 + 1) i_is_misplaced [st, .int ((place.length : Int) / 2 + 1), .bl within, .str kind] m' = .ok (.bl (misplaced st ((place.length : Int) / 2 + 1) within kind)) m' := fun m' => by
          exact is_misplaced_eq (n := n + f + 8) hs
        cases hm : misplaced st ((place.length : Int) / 2 + 1) within kind with
        | true =>
          rw [if_pos rfl]
          simp [path_add _ _ _ _ hpl, glo_INB, glo_MOST, sRaise_path, LoopEnd, h12', h80', is_statement_eq (n := n + f + 2) hst, hs, hmi, hm]
        | false =>
          rw [if_neg (by simp)]
          simp [path_add _ _ _ _ hpl, glo_INB, glo_MOST, sRaise_path, h12', h80', is_statement_eq (n := n + f + 2) hst, hs, hmi, hm, inner_blocks_eq hs]
          generalize hR2 : forItems _ _ (pairs (blocksOf st)) _ _ = R2
          have hbd := blocks_dat hs hst
          have key := for_runX hR2 (fun many k b => chkBlock f ((lstW b).getD []) (place ++ [q, k]) (withinIn st within) (kindIn st kind) many)
            (fun many σ m' => (∃ x10 x11 x12, σ = [some w, some (pathW place), some (.bl within), some (.str kind), some (.int before), some (.int ((place.length : Int) / 2 + 1)), some (.int (many : Nat)), some (.int (q : Nat)), some st, some (pathW (place ++ [q])), x10, x11, x12]) ∧ ∃ J, m' = m ++ J)
            (fun p r => ∃ σ J, r = .ex σ k_NoProgram [(a_path, pathW p)] (m ++ J)) (fun e r ⟨σ, J, hr⟩ hg => by
              subst hr
              rcases hg with ⟨_, _, z⟩ | ⟨_, _, z⟩ <;> cases z) (many + 1) ⟨⟨_, _, _, rfl⟩, J ++ stmtJ st, by first | rfl | simp⟩ (by
              rintro many2 k b σ m' hk ⟨⟨x10, x11, x12, rfl⟩, J2, rfl⟩
              have hmem := List.mem_of_getElem? hk
              have hbb := hbd b hmem
              obtain ⟨xs, hxs, _⟩ := isLst_cases hbb.2
              have hj : j + 1 < 8 := by
                have : (blocksOf st).isEmpty = false := by
                  cases e : blocksOf st with
                  | nil => rw [e] at hmem; simp at hmem
                  | cons _ _ => rfl
                simp [misplaced, this] at hm
                omega
              have hdb : Dat (m ++ J2) b = true := by
                have h0 : Dat m st = true := Dats_iff.mp hd st (List.mem_of_getElem? hq)
                exact Dat.app J2 (blocks_dat hs h0 b hmem).1
              have hr := hrec (by omega) (m := m ++ J2) (w := b) (block := xs) (place := place ++ [q, k]) (within := withinIn st within) (kind := kindIn st kind) (before := many2) (by simp; omega) hxs (Dat_lstW hdb hxs)
              have hpa : binSem true BOp.add (pathW (place ++ [q])) (.tup [.int (k : Nat)]) (m ++ J2) = .ok (pathW (place ++ [q, k])) (m ++ J2) := by
                rw [path_add _ _ _ _ (by simp; omega)]; simp
              simp [within_inner_eq hs, hpa, inner_kind_eq hs, hxs]
              cases ec : chkBlock f xs (place ++ [q, k]) (withinIn st within) (kindIn st kind) many2 with
              | ok many3 =>
                rw [ec] at hr
                obtain ⟨J3, hr⟩ := hr
                simp [hr]
                exact ⟨_, _, ⟨⟨_, _, _, rfl⟩, J2 ++ J3, by first | rfl | simp⟩, rfl⟩
              | error p =>
                rw [ec] at hr
                obtain ⟨J3, hr⟩ := hr
                simp [hr]
                exact ⟨_, J2 ++ J3, by first | rfl | simp⟩)
          cases e : runX _ (many + 1) 0 (blocksOf st) with
          | ok many3 =>
            rw [e] at key
            obtain ⟨σ', m', ⟨⟨x10, x11, x12, rfl⟩, J3, rfl⟩, rfl⟩ := key
            exact ⟨_, _, ⟨⟨_, _, _, _, _, _, rfl⟩, J3, rfl⟩, rfl⟩
          | error p =>
            rw [e] at key
            exact key)
  unfold chkBlock
  cases e : runX _ before 0 block with
  | ok many =>
    rw [e] at key
    obtain ⟨σ', m', ⟨⟨x7, x8, x9, x10, x11, x12, rfl⟩, J, rfl⟩, rfl⟩ := key
    exact ⟨J, by simp⟩
  | error p =>
    rw [e] at key
    obtain ⟨σ', J, rfl⟩ := key
    exact ⟨J, by simp⟩
theorem check_block_eq : ∀ (f j : Nat) {n : Nat}, f + 1 + j = 8 → ∀ {m : M} {w : W} {block : List W} {place : List Nat} {within : Bool} {kind : Str} {before : Nat}, place.length = 2 * j → lstW w = some block → Dats m block = true →
    ChkEnd m (pd.tx.call (n + f + 21) i_check_block [w, pathW place, .bl within, .str kind, .int before] m) (chkBlock (f + 1) block place within kind before) := by
  intro f
  induction f with
  | zero => intro j n hf m w block place within kind before hp hw hd; exact check_step 0 j hf (fun h => absurd rfl h) hp hw hd
  | succ f ih =>
    intro j n hf m w block place within kind before hp hw hd
    refine check_step (f + 1) j hf (fun _ => ?_) hp hw hd
    intro m w block place within kind before hp hw hd
    exact ih (j + 1) (n := n) (by omega) hp hw hd
end MPT
end

section
set_option maxHeartbeats 4000000
/-! Spec6: copies; codes and parameters; how a program is kept. -/
namespace MPT
open PySem PySem.Spec PyProof.Rows L2 MP

theorem deep_copy_eq : ∀ (d : Nat) {n : Nat} {m : M} {w : W}, dep w ≤ d → Cpy w = true → Dat m w = true → pd.tx.call (n + d + 2) i_deep_copy [w] m = .ok w m := by
  intro d
  induction d with
  | zero =>
    intro n m w hd hc h
    rw [show n + 0 + 2 = n + 2 by omega, call_body (fi := f_deep_copy.fi) (us := [w]) rfl rfl]
    show asRes (evSs (CL n) pd.tx.xn f_deep_copy.body [some w, none] m) = _
    cases w <;> simp [dep] at hd <;> simp [f_deep_copy, cl_g, isa_lst isaB h, isa_tup isaB h, isLstW, isTupW] <;> simp [Cpy] at hc
  | succ d ih =>
    intro n m w hd hc h
    rw [show n + (d + 1) + 2 = n + d + 1 + 2 by omega, call_body (fi := f_deep_copy.fi) (us := [w]) rfl rfl]
    show asRes (evSs (CL (n + d + 1)) pd.tx.xn f_deep_copy.body [some w, none] m) = _
    have each : ∀ xs : List W, deps xs ≤ d → Cpys xs = true → Dats m xs = true → ∀ w, cpItems { tg := Tg.nm 1, cond := yes, elt := eCall (pd.tx.call (n + d + 1 + 1) i_deep_copy) (eCons (eVar 1) eNil), vs := [1] } [some w, none] xs m = .ok xs m := by
      intro xs h1 h2 h3 w
      rw [cpItems_each (i := 1) (g := fun x => x) rfl rfl (fun a ha => by
        have := dep_mem ha
        simp [wipeW, ih (n := n) (m := m) (w := a) (by omega) (Cpys_iff.mp h2 a ha) (Dats_iff.mp h3 a ha)])]
      simp
    cases w with
    | tup xs =>
      simp only [dep] at hd
      simp only [Cpy, Bool.and_eq_true, decide_eq_true_eq] at hc
      simp only [Dat] at h
      simp [f_deep_copy, cl_g, cl_c0, isa_lst isaB (w := .tup xs) (by simpa only [Dat] using h), isa_tup isaB (w := .tup xs) (by simpa only [Dat] using h), isLstW, isTupW]
      rw [each xs (by omega) hc.2 h]
      simp [hc.1, tupleSem, rdL]
    | lst xs =>
      simp only [dep] at hd
      simp only [Cpy, Bool.and_eq_true, decide_eq_true_eq] at hc
      simp only [Dat] at h
      simp [f_deep_copy, cl_g, cl_c0, isa_lst isaB (w := .lst xs) (by simpa only [Dat] using h), isLstW]
      rw [each xs (by omega) hc.2 h]
      simp [hc.1]
    | kl xs => simp [Cpy] at hc
    | kt xs => simp [Cpy] at hc
    | fn k => simp [Cpy] at hc
    | kd k => simp [Cpy] at hc
    | non => simp [f_deep_copy, cl_g, isa_lst isaB h, isa_tup isaB h, isLstW, isTupW]
    | bl _ => simp [f_deep_copy, cl_g, isa_lst isaB h, isa_tup isaB h, isLstW, isTupW]
    | int _ => simp [f_deep_copy, cl_g, isa_lst isaB h, isa_tup isaB h, isLstW, isTupW]
    | str _ => simp [f_deep_copy, cl_g, isa_lst isaB h, isa_tup isaB h, isLstW, isTupW]
    | ref _ => simp [f_deep_copy, cl_g, isa_lst isaB h, isa_tup isaB h, isLstW, isTupW]
/-! ### codes and parameters -/
def hasCodes (w : W) : Bool := headIs w "def" || headIs w "class"
def paramsAt (w : W) : List W := if headIs w "def" then (match w with
    | .tup [_, _, ps, _] => [ps]
    | _ => []) else if headIs w "class" then (match w with
    | .tup [_, _, _, ms] => ((lstW ms).getD []).map fun x => match x with
      | .tup [_, ps, _] => ps
      | _ => .non
    | _ => []) else []
def codesAt (p : List Nat) (w : W) : List W := if hasCodes w then (List.range (blocksOf w).length).map fun k => pathW (p ++ [k]) else []
theorem params_len {w : W} (h : isStmt w = true) : (paramsAt w).length = if hasCodes w then (blocksOf w).length else 0 := by
  cases shape_of h with
  | simple hs => cases hs <;> simp [paramsAt, hasCodes, headIs]
  | call => simp [paramsAt, hasCodes, headIs]
  | if_ => simp [paramsAt, hasCodes, headIs]
  | while_ => simp [paramsAt, hasCodes, headIs]
  | try_ => simp [paramsAt, hasCodes, headIs]
  | def_ => simp [paramsAt, hasCodes, headIs, blocksOf]
  | class_ h1 h2 h3 h4 => simp [paramsAt, hasCodes, headIs, blocksOf, h3]
theorem blocks_len {w : W} (h : isStmt w = true) : (blocksOf w).length ≤ 4 := by
  cases shape_of h with
  | simple hs => cases hs <;> simp [blocksOf]
  | call => simp [blocksOf]
  | if_ => simp [blocksOf]
  | while_ => simp [blocksOf]
  | try_ => simp [blocksOf]
  | def_ => simp [blocksOf]
  | class_ h1 h2 h3 h4 =>
    simp [blocksOf, h3]
    unfold areMeth at h4
    rw [h3] at h4
    simp only [Bool.and_eq_true, decide_eq_true_eq] at h4
    omega
section
variable {n : Nat} {m : M} {w : W}
theorem params_at_eq {p : List Nat} (h : isStmt w = true) : pd.tx.call (n + 2) i_params_at [pathW p, w] m = .ok (.lst (paramsAt w)) m := by
  rw [call_body (fi := f_params_at.fi) (us := [pathW p, w]) rfl rfl]
  show asRes (evSs (CL n) pd.tx.xn f_params_at.body [some (pathW p), some w, none] m) = _
  cases shape_of h with
  | simple hs => cases hs <;> simp [f_params_at, paramsAt, headIs]
  | call => simp [f_params_at, paramsAt, headIs]
  | if_ => simp [f_params_at, paramsAt, headIs]
  | while_ => simp [f_params_at, paramsAt, headIs]
  | try_ => simp [f_params_at, paramsAt, headIs]
  | def_ => simp [f_params_at, paramsAt, headIs]
  | @class_ nm e ms xs h1 h2 h3 h4 =>
    unfold areMeth at h4
    rw [h3] at h4
    simp only [Bool.and_eq_true, decide_eq_true_eq] at h4
    have he := isMeth_each h4.2
    have hl : xs.length ≤ 1000 := by omega
    simp [f_params_at, paramsAt, headIs, h3, src_L h3]
    rw [cpItems_each (i := 2) (g := fun x => match x with
      | .tup [_, ps, _] => ps
      | _ => .non) rfl rfl (fun x hx => by
        obtain ⟨nm, ps, b, rfl, _⟩ := he x hx
        simp [wipeW])]
    simp [hl]
theorem rangeW_0 (k : Nat) : rangeW 0 k = (List.range k).map fun (i : Nat) => (W.int (i : Int)) := by
  unfold rangeW; simp
theorem srcR1_nat (k : Nat) (m : M) (h : k ≤ 100000) : srcR1 [.int (k : Int)] m = .ok (.items ((List.range k).map fun (i : Nat) => (W.int (i : Int)))) m := by
  simp only [srcR1, srcRange]
  rw [if_pos ⟨Int.le_trans (show (-(2 ^ 62) : Int) ≤ 0 by decide) (Int.natCast_nonneg k), Int.lt_of_le_of_lt (show (k : Int) ≤ 100000 by omega) (by decide)⟩, Int.toNat_natCast, rangeW_0]
theorem codes_at_eq {p : List Nat} (h : isStmt w = true) (hp : p.length ≤ 100) : pd.tx.call (n + 3) i_codes_at [pathW p, w] m = .ok (.lst (codesAt p w)) m := by
  rw [show n + 3 = n + 1 + 2 by omega, call_body (fi := f_codes_at.fi) (us := [pathW p, w]) rfl rfl]
  show asRes (evSs (CL (n + 1)) pd.tx.xn f_codes_at.body [some (pathW p), some w, none] m) = _
  have hb := blocks_len h
  obtain ⟨word, rest, rfl⟩ := isStmt_tup h
  cases hc : hasCodes (.tup (.str word :: rest)) with
  | false =>
    have : memS ["def", "class"] word = false := by
      simpa [hasCodes, headIs, memS_cons, memS_nil] using hc
    simp [f_codes_at, this, codesAt, hc]
  | true =>
    have : memS ["def", "class"] word = true := by
      simpa [hasCodes, headIs, memS_cons, memS_nil] using hc
    have hib : pd.tx.call (n + 1 + 1) i_inner_blocks [.tup (.str word :: rest)] m = .ok (.lst (blocksOf (.tup (.str word :: rest)))) m := inner_blocks_eq (n := n) h
    simp only [codesAt, hc, if_true]
    revert hb hib
    generalize blocksOf (.tup (.str word :: rest)) = B
    intro hb hib
    have hlen : B.length ≤ 1000 := by omega
    have hsr := srcR1_nat B.length m (by omega)
    have hcp : cpItems { tg := Tg.nm 2, cond := yes, elt := two (eVar 0) (eTup (eCons (eVar 2) eNil)) (binSem true BOp.add), vs := [2] } [some (pathW p), some (.tup (.str word :: rest)), none] ((List.range B.length).map fun (i : Nat) => (W.int (i : Int))) m = .ok ((List.range B.length).map fun k => pathW (p ++ [k])) m := by
      rw [cpItems_each (i := 2) (g := fun x => match x with
        | .int k => pathW (p ++ [k.toNat])
        | _ => .non) rfl rfl (fun x hx => by
          obtain ⟨k, _, rfl⟩ := List.mem_map.mp hx
          simp [wipeW, path_add _ p k m (by omega)])]
      simp
    have hl2 : ((List.range B.length).map fun k => pathW (p ++ [k])).length ≤ 1000 := by simpa using hlen
    simp [f_codes_at, this, cl_c0, hib, hsr]
    rw [hcp]
    simp only [Res.bind_ok, mkLst_frz _ _ hl2]
    simp only [thenS_ok, asRes_rt]
end
end MPT
end

section
set_option maxHeartbeats 4000000
/-! Spec7: how a program is kept: keep_codes, keep_block. -/
namespace MPT
open PySem PySem.Spec PyProof.Rows L2 MP

/-- what a program keeps: order, statements, owners, blocks, parameters, kinds -/
structure KS where
  ord : List W
  st : List (List Key × W)
  ow : List (List Key × W)
  bl : List (List Key × W)
  par : List (List Key × W)
  knd : List (List Key × W)
def KS.mem (s : KS) : M := [some (.lst s.ord), some (.dT s.st), some (.dT s.ow), some (.dT s.bl), some (.dT s.par), some (.lst []), some (.dT s.knd)]
def KS.size (s : KS) : Nat := s.ord.length + s.st.length + s.ow.length + s.bl.length + s.par.length + s.knd.length
def keyP (p : List Nat) : List Key := p.map fun (k : Nat) => (.inl (k : Int) : Key)
theorem keys_path : ∀ p : List Nat, (p.map fun (k : Nat) => W.int (k : Int)).mapM keyOf = some (keyP p)
  | [] => rfl
  | k :: p => by rw [List.map_cons, List.mapM_cons, keys_path p]; simp [keyP, MP.keyOf]
/-- the object in the memory: base holds it at i, its things stand behind base -/
def PObj (base : M) (i : Nat) (top : W) : Prop := base[i]? = some (some (.ins k_Program [(a_top, top), (a_order, .ref base.length), (a_statements, .ref (base.length + 1)), (a_owners, .ref (base.length + 2)), (a_blocks, .ref (base.length + 3)), (a_parameters, .ref (base.length + 4)), (a_kinds_of_codes, .ref (base.length + 6))]))
theorem lt_of_get {α : Type} {l : List α} {i : Nat} {x : α} (h : l[i]? = some x) : i < l.length := (List.getElem?_eq_some_iff.mp h).1
section
variable {base : M} {i : Nat} {top : W} (P : PObj base i top) (x : M)
include P
theorem pobj_get : (base ++ x)[i]? = some (some (.ins k_Program [(a_top, top), (a_order, .ref base.length), (a_statements, .ref (base.length + 1)), (a_owners, .ref (base.length + 2)), (a_blocks, .ref (base.length + 3)), (a_parameters, .ref (base.length + 4)), (a_kinds_of_codes, .ref (base.length + 6))])) := by
  rw [List.getElem?_append_left (lt_of_get P)]; exact P
theorem fld_top : fldSem pd.tx.g a_top (.ref i) (base ++ x) = .ok top (base ++ x) := by
  simp only [fldSem, pobj_get P x]; rw [if_pos (by decide)]; rfl
theorem fld_order : fldSem pd.tx.g a_order (.ref i) (base ++ x) = .ok (.ref base.length) (base ++ x) := by
  simp only [fldSem, pobj_get P x]; rw [if_pos (by decide)]; rfl
theorem fld_statements : fldSem pd.tx.g a_statements (.ref i) (base ++ x) = .ok (.ref (base.length + 1)) (base ++ x) := by
  simp only [fldSem, pobj_get P x]; rw [if_pos (by decide)]; rfl
theorem fld_owners : fldSem pd.tx.g a_owners (.ref i) (base ++ x) = .ok (.ref (base.length + 2)) (base ++ x) := by
  simp only [fldSem, pobj_get P x]; rw [if_pos (by decide)]; rfl
theorem fld_blocks : fldSem pd.tx.g a_blocks (.ref i) (base ++ x) = .ok (.ref (base.length + 3)) (base ++ x) := by
  simp only [fldSem, pobj_get P x]; rw [if_pos (by decide)]; rfl
theorem fld_parameters : fldSem pd.tx.g a_parameters (.ref i) (base ++ x) = .ok (.ref (base.length + 4)) (base ++ x) := by
  simp only [fldSem, pobj_get P x]; rw [if_pos (by decide)]; rfl
theorem fld_kinds : fldSem pd.tx.g a_kinds_of_codes (.ref i) (base ++ x) = .ok (.ref (base.length + 6)) (base ++ x) := by
  simp only [fldSem, pobj_get P x]; rw [if_pos (by decide)]; rfl
end
section
variable (base : M) (s : KS)
theorem put_st (p : List Nat) (w : W) (h : s.size ≤ 100000) : itemPut (.ref (base.length + 1)) (pathW p) w (base ++ s.mem) = .ok () (base ++ { s with st := putD s.st (keyP p) w }.mem) := by
  simp only [itemPut, get_app, KS.mem, List.getElem?_cons_zero, List.getElem?_cons_succ, pathW, keys_path]
  rw [if_pos (by unfold KS.size at h; rw [sizeLine_eq]; omega)]
  simp only [setO, set_app, List.set_cons_succ, List.set_cons_zero]
theorem put_ow (p : List Nat) (w : W) (h : s.size ≤ 100000) : itemPut (.ref (base.length + 2)) (pathW p) w (base ++ s.mem) = .ok () (base ++ { s with ow := putD s.ow (keyP p) w }.mem) := by
  simp only [itemPut, get_app, KS.mem, List.getElem?_cons_zero, List.getElem?_cons_succ, pathW, keys_path]
  rw [if_pos (by unfold KS.size at h; rw [sizeLine_eq]; omega)]
  simp only [setO, set_app, List.set_cons_succ, List.set_cons_zero]
theorem put_bl (p : List Nat) (w : W) (h : s.size ≤ 100000) : itemPut (.ref (base.length + 3)) (pathW p) w (base ++ s.mem) = .ok () (base ++ { s with bl := putD s.bl (keyP p) w }.mem) := by
  simp only [itemPut, get_app, KS.mem, List.getElem?_cons_zero, List.getElem?_cons_succ, pathW, keys_path]
  rw [if_pos (by unfold KS.size at h; rw [sizeLine_eq]; omega)]
  simp only [setO, set_app, List.set_cons_succ, List.set_cons_zero]
theorem put_par (p : List Nat) (w : W) (h : s.size ≤ 100000) : itemPut (.ref (base.length + 4)) (pathW p) w (base ++ s.mem) = .ok () (base ++ { s with par := putD s.par (keyP p) w }.mem) := by
  simp only [itemPut, get_app, KS.mem, List.getElem?_cons_zero, List.getElem?_cons_succ, pathW, keys_path]
  rw [if_pos (by unfold KS.size at h; rw [sizeLine_eq]; omega)]
  simp only [setO, set_app, List.set_cons_succ, List.set_cons_zero]
theorem put_knd (p : List Nat) (w : W) (h : s.size ≤ 100000) : itemPut (.ref (base.length + 6)) (pathW p) w (base ++ s.mem) = .ok () (base ++ { s with knd := putD s.knd (keyP p) w }.mem) := by
  simp only [itemPut, get_app, KS.mem, List.getElem?_cons_zero, List.getElem?_cons_succ, pathW, keys_path]
  rw [if_pos (by unfold KS.size at h; rw [sizeLine_eq]; omega)]
  simp only [setO, set_app, List.set_cons_succ, List.set_cons_zero]
theorem app_ord (w : W) (h : s.size ≤ 100000) : bmSem .append (.ref base.length) [w] (base ++ s.mem) = .ok .non (base ++ { s with ord := s.ord ++ [w] }.mem) := by
  have e := get_app base s.mem 0
  rw [Nat.add_zero] at e
  have e2 := set_app base s.mem 0 (some (.lst (s.ord ++ [w])))
  rw [Nat.add_zero] at e2
  simp only [bmSem, appendSem, e]
  simp only [KS.mem, List.getElem?_cons_zero]
  rw [if_pos (by unfold KS.size at h; rw [sizeLine_eq]; omega)]
  simp only [setO]
  rw [show [some (O.lst s.ord), some (O.dT s.st), some (O.dT s.ow), some (O.dT s.bl), some (O.dT s.par), some (O.lst []), some (O.dT s.knd)] = s.mem from rfl, e2]
  rfl
theorem ty_ord : tyOk "list" (.ref base.length) (base ++ s.mem) = true := by
  have e := get_app base s.mem 0
  rw [Nat.add_zero] at e
  simp [tyOk, rdL, e, KS.mem]
theorem in_par (p : List Nat) : inSem false (pathW p) (.ref (base.length + 4)) (base ++ s.mem) = .ok (.bl (dGet s.par (keyP p)).isSome) (base ++ s.mem) := by
  simp only [inSem, rdL, rdT, get_app, KS.mem, List.getElem?_cons_zero, List.getElem?_cons_succ, pathW, MP.dictGet, keys_path]
  simp
end
theorem putD_len {κ : Type} [DecidableEq κ] (d : List (κ × W)) (k : κ) (w : W) : (putD d k w).length ≤ d.length + 1 := by
  unfold putD; split
  · simp
  · simp
@[simp] theorem sItemPut_eq (ro ri rv : Sl → M → Res W) (σ : Sl) (m : M) : sItemPut ro ri rv σ m = thenS σ (rv σ m) fun y m1 => thenS σ (ro σ m1) fun x m2 => thenS σ (ri σ m2) fun z m3 => thenS σ (itemPut x z y m3) fun _ m4 => .nx σ m4 := eqI rfl
/-! ### keep_codes -/
def keepCode (p : List Nat) (w : W) (s : KS) (k : Nat) (_ : W) : KS := { s with par := putD s.par (keyP (p ++ [k])) ((paramsAt w).getD k .non), knd := putD s.knd (keyP (p ++ [k])) (.str (kindIn w "top")) }
def keepCodes (p : List Nat) (w : W) (s : KS) : KS := foldI (keepCode p w) s 0 (codesAt p w)
theorem codes_get {p : List Nat} {w x : W} {k : Nat} (h : (codesAt p w)[k]? = some x) : hasCodes w = true ∧ k < (blocksOf w).length ∧ x = pathW (p ++ [k]) := by
  unfold codesAt at h
  split at h
  · rename_i hc
    rw [List.getElem?_map] at h
    obtain ⟨q, e1, e2⟩ := Option.map_eq_some_iff.mp h
    have hk := lt_of_get e1
    rw [List.length_range] at hk
    rw [List.getElem?_range hk] at e1
    cases e1
    exact ⟨hc, hk, e2.symm⟩
  · simp at h
theorem keep_codes_eq {n : Nat} {base : M} {i : Nat} {top w : W} {p : List Nat} {s : KS} (P : PObj base i top) (hs : isStmt w = true) (hp : p.length ≤ 100) (hz : s.size ≤ 90000) :
    pd.tx.call (n + 4) i_Program_keep_codes [.ref i, pathW p, w] (base ++ s.mem) = .ok .non (base ++ (keepCodes p w s).mem) := by
  rw [show n + 4 = n + 2 + 2 by omega, call_body (fi := m_Program_keep_codes.fi) (us := [.ref i, pathW p, w]) rfl rfl]
  show asRes (evSs (CL (n + 2)) pd.tx.xn m_Program_keep_codes.body [some (.ref i), some (pathW p), some w, none, none, none] (base ++ s.mem)) = _
  simp [m_Program_keep_codes, cl_c0, cl_g, params_at_eq hs, codes_at_eq hs hp]
  generalize hR : forItems _ _ (pairs (codesAt p w)) _ _ = R
  have hb := blocks_len hs
  have hpl := params_len hs
  obtain ⟨σ', m', ⟨⟨x4, x5, rfl⟩, rfl, _⟩, rfl⟩ := for_allE hR (keepCode p w) (fun k (sc : KS) σ m' => (∃ x4 x5, σ = [some (.ref i), some (pathW p), some w, some (.lst (paramsAt w)), x4, x5]) ∧ m' = base ++ sc.mem ∧ sc.size ≤ s.size + 2 * k) s ⟨⟨none, none, rfl⟩, rfl, by simp⟩ (by
    rintro sc k x σ m' hx ⟨⟨x4, x5, rfl⟩, rfl, hsz⟩
    obtain ⟨hc, hk, rfl⟩ := codes_get hx
    rw [hc, if_pos rfl] at hpl
    have hat : atI (paramsAt w) (k : Int) = some ((paramsAt w).getD k .non) := by
      rw [MP.atI_nat, List.getD_eq_getElem?_getD, List.getElem?_eq_getElem (by omega)]; rfl
    have hsz2 : sc.size ≤ 100000 := by omega
    have hsz3 : ({ sc with par := putD sc.par (keyP (p ++ [k])) ((paramsAt w).getD k .non) } : KS).size ≤ 100000 := by
      have := putD_len sc.par (keyP (p ++ [k])) ((paramsAt w).getD k .non)
      unfold KS.size at *; simp only; omega
    refine ⟨[some (.ref i), some (pathW p), some w, some (.lst (paramsAt w)), some (.int (k : Nat)), some (pathW (p ++ [k]))], base ++ (keepCode p w sc k (pathW (p ++ [k]))).mem, ?_, ⟨_, _, rfl⟩, rfl, ?_⟩
    · simp only [sSeq_eq, sItemPut_eq, two_eq, eVar_eq, one_eq, List.set_cons_succ, List.set_cons_zero, List.getElem?_cons_succ, List.getElem?_cons_zero, varK_some, Res.bind_ok, ix_lst, hat, itemK_some, thenS_ok, fld_parameters P, put_par base sc _ _ hsz2, SR.andThen_nx, eCall_eq, eCons_eq, eC_eq, eNil_eq, inner_kind_eq hs, fld_kinds P, put_knd base _ _ _ hsz3]
      rfl
    · have e1 := putD_len sc.par (keyP (p ++ [k])) ((paramsAt w).getD k .non)
      have e2 := putD_len sc.knd (keyP (p ++ [k])) (.str (kindIn w "top"))
      unfold keepCode
      unfold KS.size at *
      simp only
      omega)
  simp [keepCodes]
/-! ### keep_block -/
/-- one inner block of a statement at path, number k -/
def keepInner (rec : W → List Nat → List Nat → KS → KS) (path code : List Nat) (bs : List W) (s : KS) (k : Nat) (_ : W) : KS :=
  if (dGet s.par (keyP (path ++ [k]))).isSome = true then rec (bs.getD k .non) (path ++ [k]) (path ++ [k]) s else rec (bs.getD k .non) (path ++ [k]) code s
def keepStmt (rec : W → List Nat → List Nat → KS → KS) (place code : List Nat) (s : KS) (k : Nat) (w : W) : KS :=
  let p := place ++ [k]
  let s1 := keepCodes p w { s with ord := s.ord ++ [pathW p], st := putD s.st (keyP p) w, ow := putD s.ow (keyP p) (pathW code) }
  foldI (keepInner rec p code (blocksOf w)) s1 0 ((List.range (blocksOf w).length).map fun (i : Nat) => (W.int (i : Int)))
def keepBlock : Nat → W → List Nat → List Nat → KS → KS
  | 0, _, _, _, s => s
  | f + 1, b, place, code, s => foldI (keepStmt (keepBlock f) place code) { s with bl := putD s.bl (keyP place) b } 0 ((lstW b).getD [])
/-- how much keeping a block adds -/
def wtStmt (rec : W → Nat) (w : W) : Nat := 11 + ((blocksOf w).map rec).sum
def wt : Nat → W → Nat
  | 0, _ => 0
  | f + 1, b => 1 + (((lstW b).getD []).map (wtStmt (wt f))).sum
/-- a block all of whose statements are statements, no deeper than f -/
def okB : Nat → W → Bool
  | 0, _ => false
  | f + 1, b => isLstW b && allB (fun w => isStmt w && allB (okB f) (blocksOf w)) ((lstW b).getD [])
theorem keepCodes_size {p : List Nat} {w : W} (hs : isStmt w = true) (s : KS) : (keepCodes p w s).size ≤ s.size + 8 := by
  have key : ∀ (xs : List W) (k : Nat) (s : KS), (foldI (keepCode p w) s k xs).size ≤ s.size + 2 * xs.length := by
    intro xs
    induction xs with
    | nil => intro k s; simp [foldI]
    | cons x xs ih =>
      intro k s
      simp only [foldI]
      refine Nat.le_trans (ih _ _) ?_
      have e1 := putD_len s.par (keyP (p ++ [k])) ((paramsAt w).getD k .non)
      have e2 := putD_len s.knd (keyP (p ++ [k])) (.str (kindIn w "top"))
      unfold keepCode KS.size
      simp only [List.length_cons]
      omega
  refine Nat.le_trans (key _ _ _) ?_
  have hb := blocks_len hs
  have : (codesAt p w).length ≤ 4 := by
    unfold codesAt
    split
    · simp; omega
    · simp
  omega
theorem meth_keep {n : Nat} {base : M} {i : Nat} {top : W} {x : M} (P : PObj base i top) (ro : Sl → M → Res W) (rs : Sl → M → Res (List W)) (σ : Sl) (m : M) (f : Nat) (hf : f = a_keep_block ∨ f = a_keep_codes) (ho : ro σ m = .ok (.ref i) (base ++ x)) :
    eMeth (methTb (CL n) f) f ro rs σ m = (rs σ (base ++ x)).bind fun ws m2 => pd.tx.call (n + 1) (if f = a_keep_block then i_Program_keep_block else i_Program_keep_codes) (.ref i :: ws) m2 := by
  unfold eMeth
  rw [ho]
  simp only [Res.bind_ok, pobj_get P x]
  rcases hf with rfl | rfl <;> rfl
theorem meth_kc {n : Nat} {base : M} {i : Nat} {top : W} (P : PObj base i top) (x : M) (rs : Sl → M → Res (List W)) (σ : Sl) (h : σ[0]? = some (some (.ref i))) :
    eMeth (methTb (CL n) a_keep_codes) a_keep_codes (eVar 0) rs σ (base ++ x) = (rs σ (base ++ x)).bind fun ws m2 => pd.tx.call (n + 1) i_Program_keep_codes (.ref i :: ws) m2 :=
  meth_keep P (eVar 0) rs σ (base ++ x) a_keep_codes (.inr rfl) (by rw [eVar_eq, h]; rfl)
theorem meth_kb {n : Nat} {base : M} {i : Nat} {top : W} (P : PObj base i top) (x : M) (rs : Sl → M → Res (List W)) (σ : Sl) (h : σ[0]? = some (some (.ref i))) :
    eMeth (methTb (CL n) a_keep_block) a_keep_block (eVar 0) rs σ (base ++ x) = (rs σ (base ++ x)).bind fun ws m2 => pd.tx.call (n + 1) i_Program_keep_block (.ref i :: ws) m2 :=
  meth_keep P (eVar 0) rs σ (base ++ x) a_keep_block (.inl rfl) (by rw [eVar_eq, h]; rfl)
theorem take_sum {α : Type} (g : α → Nat) : ∀ (xs : List α) (k : Nat), ((xs.take k).map g).sum ≤ (xs.map g).sum
  | [], k => by simp
  | x :: xs, 0 => by simp
  | x :: xs, k + 1 => by
    have := take_sum g xs k
    simp only [List.take_succ_cons, List.map_cons, List.sum_cons]
    omega
theorem take_sum1 {α : Type} (g : α → Nat) {xs : List α} {k : Nat} {x : α} (h : xs[k]? = some x) : ((xs.take (k + 1)).map g).sum = ((xs.take k).map g).sum + g x := by
  rw [List.take_succ, h]
  simp
theorem keep_block_eq : ∀ (f : Nat) {n : Nat} {base : M} {i : Nat} {top b : W} {place code : List Nat} {s : KS}, PObj base i top → okB f b = true → place.length + 2 * f ≤ 90 → s.size + wt f b ≤ 80000 →
    pd.tx.call (n + f + 5) i_Program_keep_block [.ref i, b, pathW place, pathW code] (base ++ s.mem) = .ok .non (base ++ (keepBlock f b place code s).mem) ∧ (keepBlock f b place code s).size ≤ s.size + wt f b := by
  intro f
  induction f with
  | zero => intro n base i top b place code s P h; simp [okB] at h
  | succ f ih =>
    intro n base i top b place code s P hok hpl hsz
    simp only [okB, Bool.and_eq_true] at hok
    obtain ⟨xs, hxs, _⟩ := isLst_cases hok.1
    have hst := allB_iff.mp hok.2
    rw [hxs] at hst
    simp only [Option.getD_some, Bool.and_eq_true] at hst
    have hwt : wt (f + 1) b = 1 + (xs.map (wtStmt (wt f))).sum := by simp [wt, hxs]
    have hkb : keepBlock (f + 1) b place code s = foldI (keepStmt (keepBlock f) place code) { s with bl := putD s.bl (keyP place) b } 0 xs := by simp [keepBlock, hxs]
    have hs1 : ({ s with bl := putD s.bl (keyP place) b } : KS).size ≤ s.size + 1 := by
      have := putD_len s.bl (keyP place) b
      unfold KS.size; simp only; omega
    rw [show n + (f + 1) + 5 = n + f + 4 + 2 by omega, call_body (fi := m_Program_keep_block.fi) (us := [.ref i, b, pathW place, pathW code]) rfl rfl]
    rw [hkb]
    show asRes (evSs (CL (n + f + 4)) pd.tx.xn m_Program_keep_block.body [some (.ref i), some b, some (pathW place), some (pathW code), none, none, none, none, none, none] (base ++ s.mem)) = _ ∧ _
    simp only [m_Program_keep_block, evSs_two, evSs_one, evS_item, evE_fld, evE_var, evS_for, evI_enm, evEs_cons, evEs_nil, sSeq_eq, sItemPut_eq, one_eq, eVar_eq, List.getElem?_cons_zero, List.getElem?_cons_succ, varK_some, Res.bind_ok, thenS_ok, cl_g, fld_blocks P, put_bl base s _ _ (by omega : s.size ≤ 100000), SR.andThen_nx, sFor_eq, srcArgs_eq, eCons_eq, eNil_eq, enum_L hxs, forAll_items]
    generalize hR : forItems _ _ (pairs xs) _ _ = R
    obtain ⟨σ', m', ⟨⟨x4, x5, x6, x7, x8, x9, rfl⟩, rfl, hsz'⟩, rfl⟩ := for_allE hR (keepStmt (keepBlock f) place code) (fun k (sc : KS) σ m' => (∃ x4 x5 x6 x7 x8 x9, σ = [some (.ref i), some b, some (pathW place), some (pathW code), x4, x5, x6, x7, x8, x9]) ∧ m' = base ++ sc.mem ∧ sc.size ≤ s.size + 1 + ((xs.take k).map (wtStmt (wt f))).sum) { s with bl := putD s.bl (keyP place) b } ⟨⟨none, none, none, none, none, none, rfl⟩, rfl, by simpa using hs1⟩ (by
      rintro sc k w σ m' hk ⟨⟨x4, x5, x6, x7, x8, x9, rfl⟩, rfl, hsc⟩
      have hw := hst w (List.mem_of_getElem? hk)
      have e1 := take_sum1 (wtStmt (wt f)) hk
      have e2 := take_sum (wtStmt (wt f)) xs (k + 1)
      have hwl : wtStmt (wt f) w = 11 + ((blocksOf w).map (wt f)).sum := rfl
      have hbl := blocks_len hw.1
      have z0 : sc.size ≤ 100000 := by omega
      have z1 : ({ sc with ord := sc.ord ++ [pathW (place ++ [k])] } : KS).size ≤ 100000 := by unfold KS.size at *; simp only [List.length_append, List.length_cons, List.length_nil]; omega
      have p1 := putD_len sc.st (keyP (place ++ [k])) w
      have p2 := putD_len sc.ow (keyP (place ++ [k])) (pathW code)
      have z2 : ({ sc with ord := sc.ord ++ [pathW (place ++ [k])], st := putD sc.st (keyP (place ++ [k])) w } : KS).size ≤ 100000 := by unfold KS.size at *; simp only [List.length_append, List.length_cons, List.length_nil]; omega
      have z3 : ({ sc with ord := sc.ord ++ [pathW (place ++ [k])], st := putD sc.st (keyP (place ++ [k])) w, ow := putD sc.ow (keyP (place ++ [k])) (pathW code) } : KS).size ≤ sc.size + 3 := by unfold KS.size at *; simp only [List.length_append, List.length_cons, List.length_nil]; omega
      have kc := keep_codes_eq (n := n + f + 1) (w := w) (p := place ++ [k]) (s := { sc with ord := sc.ord ++ [pathW (place ++ [k])], st := putD sc.st (keyP (place ++ [k])) w, ow := putD sc.ow (keyP (place ++ [k])) (pathW code) }) P hw.1 (by simp; omega) (by omega)
      have kz := keepCodes_size (p := place ++ [k]) hw.1 { sc with ord := sc.ord ++ [pathW (place ++ [k])], st := putD sc.st (keyP (place ++ [k])) w, ow := putD sc.ow (keyP (place ++ [k])) (pathW code) }
      have hpa := path_add true place k (base ++ sc.mem) (by omega)
      have a1 := app_ord base sc (pathW (place ++ [k])) z0
      have a2 := put_st base { sc with ord := sc.ord ++ [pathW (place ++ [k])] } (place ++ [k]) w z1
      have a3 := put_ow base { sc with ord := sc.ord ++ [pathW (place ++ [k])], st := putD sc.st (keyP (place ++ [k])) w } (place ++ [k]) (pathW code) z2
      have hsr := srcR1_nat (blocksOf w).length (base ++ (keepCodes (place ++ [k]) w { sc with ord := sc.ord ++ [pathW (place ++ [k])], st := putD sc.st (keyP (place ++ [k])) w, ow := putD sc.ow (keyP (place ++ [k])) (pathW code) }).mem) (by omega)
      simp [hpa, ty_ord, fld_order P, a1, fld_statements P, a2, fld_owners P, a3, meth_kc P, kc, cl_g, cl_c0, inner_blocks_eq hw.1, hsr]
      rw [← List.map_take]
      generalize hS1 : keepCodes (place ++ [k]) w { ord := sc.ord ++ [pathW (place ++ [k])], st := putD sc.st (keyP (place ++ [k])) w, ow := putD sc.ow (keyP (place ++ [k])) (pathW code), bl := sc.bl, par := sc.par, knd := sc.knd } = S1 at kz
      generalize hR2 : forItems _ _ _ _ _ = R2
      have hkS : keepStmt (keepBlock f) place code sc k w = foldI (keepInner (keepBlock f) (place ++ [k]) code (blocksOf w)) S1 0 ((List.range (blocksOf w).length).map fun (i : Nat) => (W.int (i : Int))) := by
        rw [← hS1]; rfl
      rw [hkS]
      have hokb := allB_iff.mp hw.2
      have hlr : ((List.range (blocksOf w).length).map fun (i : Nat) => (W.int (i : Int))).length = (blocksOf w).length := by simp
      obtain ⟨σ'', m'', ⟨⟨y8, y9, rfl⟩, rfl, hz''⟩, rfl⟩ := for_all hR2 (keepInner (keepBlock f) (place ++ [k]) code (blocksOf w)) (fun q (s2 : KS) σ m' => (∃ y8 y9, σ = [some (.ref i), some b, some (pathW place), some (pathW code), some (.int (k : Nat)), some w, some (pathW (place ++ [k])), some (.lst (blocksOf w)), y8, y9]) ∧ m' = base ++ s2.mem ∧ s2.size ≤ S1.size + (((blocksOf w).take q).map (wt f)).sum) S1 ⟨⟨_, _, rfl⟩, rfl, by simp⟩ (by
        rintro s2 q x σ m' hq ⟨⟨y8, y9, rfl⟩, rfl, hz⟩
        rw [List.getElem?_map] at hq
        obtain ⟨q', hq1, rfl⟩ := Option.map_eq_some_iff.mp hq
        have hql := lt_of_get hq1
        rw [List.length_range] at hql
        rw [List.getElem?_range hql] at hq1
        cases hq1
        have hbq : (blocksOf w)[q]? = some ((blocksOf w).getD q .non) := by
          rw [List.getD_eq_getElem?_getD, List.getElem?_eq_getElem hql]; rfl
        have g1 := take_sum1 (wt f) hbq
        have g2 := take_sum (wt f) (blocksOf w) (q + 1)
        have hat : atI (blocksOf w) (q : Int) = some ((blocksOf w).getD q .non) := by rw [MP.atI_nat, hbq]
        have hpa2 := path_add true (place ++ [k]) q (base ++ s2.mem) (by simp; omega)
        have hbok := hokb _ (List.mem_of_getElem? hbq)
        have ihA := fun cd => ih (n := n) (b := (blocksOf w).getD q .non) (place := place ++ [k] ++ [q]) (code := cd) (s := s2) P hbok (by simp; omega) (by omega)
        refine ⟨[some (.ref i), some b, some (pathW place), some (pathW code), some (.int (k : Nat)), some w, some (pathW (place ++ [k])), some (.lst (blocksOf w)), some (.int (q : Nat)), some (pathW (place ++ [k] ++ [q]))], base ++ (keepInner (keepBlock f) (place ++ [k]) code (blocksOf w) s2 q (.int (q : Nat))).mem, ?_, ⟨_, _, rfl⟩, rfl, ?_⟩
        · cases hin : (dGet s2.par (keyP (place ++ [k] ++ [q]))).isSome with
          | true =>
            have ih1 := (ihA (place ++ [k] ++ [q])).1
            simp only [sSeq_eq, sAsg_eq, sIf_eq, sDrop_eq, two_eq, one_eq, eVar_eq, eTup_eq, eCons_eq, eNil_eq, tstB_eq, List.set_cons_succ, List.set_cons_zero, List.getElem?_cons_succ, List.getElem?_cons_zero, varK_some, Res.bind_ok, mkTup_short _ _ (by simp : [W.int (q : Int)].length ≤ 1000), hpa2, thenS_ok, asgK_nm, SR.andThen_nx, fld_parameters P, cmp_mem, in_par, hin, asB_bl, if_true]
            rw [meth_kb P _ _ _ (by rfl)]
            simp only [two_eq, eVar_eq, eCons_eq, eNil_eq, List.getElem?_cons_succ, List.getElem?_cons_zero, varK_some, Res.bind_ok, ix_lst, hat, itemK_some]
            rw [ih1]
            simp only [thenS_ok, keepInner, hin, if_true]
          | false =>
            have ih1 := (ihA code).1
            simp only [sSeq_eq, sAsg_eq, sIf_eq, sDrop_eq, two_eq, one_eq, eVar_eq, eTup_eq, eCons_eq, eNil_eq, tstB_eq, List.set_cons_succ, List.set_cons_zero, List.getElem?_cons_succ, List.getElem?_cons_zero, varK_some, Res.bind_ok, mkTup_short _ _ (by simp : [W.int (q : Int)].length ≤ 1000), hpa2, thenS_ok, asgK_nm, SR.andThen_nx, fld_parameters P, cmp_mem, in_par, hin, asB_bl, if_false, Bool.false_eq_true]
            rw [meth_kb P _ _ _ (by rfl)]
            simp only [two_eq, eVar_eq, eCons_eq, eNil_eq, List.getElem?_cons_succ, List.getElem?_cons_zero, varK_some, Res.bind_ok, ix_lst, hat, itemK_some]
            rw [ih1]
            simp only [thenS_ok, keepInner, hin, if_false, Bool.false_eq_true]
        · unfold keepInner
          split
          · have := (ihA (place ++ [k] ++ [q])).2
            omega
          · have := (ihA code).2
            omega)
      refine ⟨_, _, rfl, ⟨_, _, _, _, _, _, rfl⟩, rfl, ?_⟩
      rw [hlr, List.take_length] at hz''
      omega)
    constructor
    · simp
    · rw [List.take_length] at hsz'
      omega
end MPT
end

section
set_option maxHeartbeats 4000000
/-! Spec8: Program(block). -/
namespace MPT
open PySem PySem.Spec PyProof.Rows L2 MP

theorem runX_ok {S E : Type} {step : S → Nat → W → Except E S} (Q : S → List W → S → Prop) (h0 : ∀ s, Q s [] s) : ∀ (xs : List W) (s : S) (k : Nat) (s' : S), (∀ s k x s1 xs' s2, x ∈ xs → step s k x = .ok s1 → Q s1 xs' s2 → Q s (x :: xs') s2) → runX step s k xs = .ok s' → Q s xs s'
  | [], s, k, s', _, h => by cases h; exact h0 s
  | x :: xs, s, k, s', h1, h => by
    simp only [runX] at h
    cases e : step s k x with
    | error er => rw [e] at h; cases h
    | ok s1 =>
      rw [e] at h
      exact h1 s k x s1 xs s' (List.mem_cons_self ..) e (runX_ok Q h0 xs s1 (k + 1) s' (fun s k y s1 xs' s2 hy => h1 s k y s1 xs' s2 (List.mem_cons_of_mem _ hy)) h)
theorem blocks_lst {w : W} (h : isStmt w = true) : ∀ b ∈ blocksOf w, isLstW b = true := by
  cases shape_of h with
  | simple hs => cases hs <;> simp [blocksOf]
  | call => simp [blocksOf]
  | if_ h1 h2 h3 => simp [blocksOf]; exact ⟨h2, h3⟩
  | while_ h1 h2 => simp [blocksOf]; exact h2
  | try_ h1 =>
    simp [isTry] at h1
    simp [blocksOf]
    exact ⟨h1.1.1.1, h1.1.1.2, h1.1.2⟩
  | def_ h1 h2 h3 => simp [blocksOf]; exact h3
  | @class_ nm e ms xs h1 h2 h3 h4 =>
    intro b hb
    simp [blocksOf, h3] at hb
    obtain ⟨x, hx, rfl⟩ := hb
    unfold areMeth at h4
    rw [h3] at h4
    simp only [Bool.and_eq_true] at h4
    obtain ⟨nm, ps, b, rfl, _, _, h5⟩ := isMeth_each h4.2 x hx
    exact h5
theorem chk_ok : ∀ (f j : Nat), f + 1 + j = 8 → ∀ {b : W} {block : List W} {place : List Nat} {within : Bool} {kind : Str} {before many : Nat}, place.length = 2 * j → lstW b = some block → chkBlock (f + 1) block place within kind before = .ok many →
    okB (f + 1) b = true ∧ before ≤ many ∧ wt (f + 1) b ≤ 1 + 15 * (many - before) ∧ (before ≤ 80 → many ≤ 80) := by
  intro f
  induction f with
  | zero =>
    intro j hj b block place within kind before many hp hb h
    unfold chkBlock at h
    have key := runX_ok (fun s xs s' => (∀ w ∈ xs, isStmt w = true ∧ blocksOf w = []) ∧ s ≤ s' ∧ (xs.map (wtStmt (wt 0))).sum ≤ 15 * (s' - s) ∧ (s ≤ 80 → s' ≤ 80)) (fun s => ⟨by simp, Nat.le_refl _, by simp, id⟩) block before 0 many (by
      rintro s k x s1 xs' s2 hx hst ⟨q1, q2, q3, q4⟩
      split at hst
      · cases hst
      · rename_i hn
        simp only [not_or] at hn
        have hs : isStmt x = true := by simpa using hn.2.2
        split at hst
        · cases hst
        · rename_i hm
          have hbe : blocksOf x = [] := by
            have hm : misplaced x ((place.length : Int) / 2 + 1) within kind = false := by simpa using hm
            simp only [misplaced, Bool.or_eq_false_iff, Bool.and_eq_false_iff, decide_eq_false_iff_not] at hm
            rcases hm.2 with z | z
            · exfalso; apply z; omega
            · simpa using z
          rw [hbe] at hst
          cases hst
          refine ⟨fun w hw => ?_, by omega, ?_, fun h80 => q4 (by have := hn.2.1; omega)⟩
          · rcases List.mem_cons.mp hw with rfl | hw
            · exact ⟨hs, hbe⟩
            · exact q1 w hw
          · simp only [List.map_cons, List.sum_cons]
            have : wtStmt (wt 0) x = 11 := by unfold wtStmt; rw [hbe]; rfl
            omega) h
    refine ⟨?_, key.2.1, ?_, key.2.2.2⟩
    · simp only [okB, Bool.and_eq_true]
      refine ⟨isLst_L hb, ?_⟩
      rw [hb, MP.allB_iff]
      intro w hw
      have := key.1 w hw
      rw [this.1, this.2]; rfl
    · have e1 : wt 1 b = 1 + (block.map (wtStmt (wt 0))).sum := by simp [wt, hb]
      have := key.2.2.1
      show wt 1 b ≤ _
      omega
  | succ f ih =>
    intro j hj b block place within kind before many hp hb h
    unfold chkBlock at h
    have key := runX_ok (fun s xs s' => (∀ w ∈ xs, isStmt w = true ∧ allB (okB (f + 1)) (blocksOf w) = true) ∧ s ≤ s' ∧ (xs.map (wtStmt (wt (f + 1)))).sum ≤ 15 * (s' - s) ∧ (s ≤ 80 → s' ≤ 80)) (fun s => ⟨by simp, Nat.le_refl _, by simp, id⟩) block before 0 many (by
      rintro s k x s1 xs' s2 hx hst ⟨q1, q2, q3, q4⟩
      split at hst
      · cases hst
      · rename_i hn
        simp only [not_or] at hn
        have hs : isStmt x = true := by simpa using hn.2.2
        split at hst
        · cases hst
        · rename_i hm
          have hbl := blocks_len hs
          have hbs := blocks_lst hs
          have k2 := runX_ok (fun s xs s' => (∀ c ∈ xs, okB (f + 1) c = true) ∧ s ≤ s' ∧ (xs.map (wt (f + 1))).sum ≤ xs.length + 15 * (s' - s) ∧ (s ≤ 80 → s' ≤ 80)) (fun s => ⟨by simp, Nat.le_refl _, by simp, id⟩) (blocksOf x) (s + 1) 0 s1 (by
            rintro t q c t1 cs t2 hc hct ⟨r1, r2, r3, r4⟩
            obtain ⟨ys, hys, _⟩ := isLst_cases (hbs c hc)
            rw [hys] at hct
            obtain ⟨i1, i2, i3, i4⟩ := ih (j + 1) (by omega) (b := c) (place := place ++ [k, q]) (by simp; omega) hys hct
            refine ⟨fun d hd => ?_, by omega, ?_, fun h => r4 (i4 h)⟩
            · rcases List.mem_cons.mp hd with rfl | hd
              · exact i1
              · exact r1 d hd
            · simp only [List.map_cons, List.sum_cons, List.length_cons]
              omega) hst
          refine ⟨fun w hw => ?_, by omega, ?_, fun h80 => q4 (k2.2.2.2 (by have := hn.2.1; omega))⟩
          · rcases List.mem_cons.mp hw with rfl | hw
            · exact ⟨hs, MP.allB_iff.mpr k2.1⟩
            · exact q1 w hw
          · simp only [List.map_cons, List.sum_cons]
            have : wtStmt (wt (f + 1)) x = 11 + ((blocksOf x).map (wt (f + 1))).sum := rfl
            have := k2.2.2.1
            omega) h
    refine ⟨?_, key.2.1, ?_, key.2.2.2⟩
    · simp only [okB, Bool.and_eq_true]
      refine ⟨isLst_L hb, ?_⟩
      rw [hb, MP.allB_iff]
      intro w hw
      have := key.1 w hw
      show (isStmt w && allB (okB (f + 1)) (blocksOf w)) = true
      rw [this.1, this.2]; rfl
    · have : wt (f + 1 + 1) b = 1 + (block.map (wtStmt (wt (f + 1)))).sum := by simp [wt, hb]
      have := key.2.2.1
      omega
/-! ### __init__ -/
/-- what a program keeps ahead of keep_block; L where its things stand -/
def KS0 (L : Nat) : KS := ⟨[], [], [], [], [([], .ref (L + 5))], [([], .str "top")]⟩
def progFs (top : W) (L : Nat) : List (Nat × W) := [(a_top, top), (a_order, .ref L), (a_statements, .ref (L + 1)), (a_owners, .ref (L + 2)), (a_blocks, .ref (L + 3)), (a_parameters, .ref (L + 4)), (a_kinds_of_codes, .ref (L + 6))]
theorem init_short {n : Nat} {m : M} {w : W} (hd : Dat m w = true) (h : (match lstW w with
    | some xs => decide (12 < xs.length)
    | none => true) = true) : pd.tx.call (n + 2) i_Program___init__ [.ref m.length, w] (m ++ [some (.ins k_Program [])]) = .exc k_NoProgram [(a_path, pathW [])] (m ++ [some (.ins k_Program [])]) := by
  rw [call_body (fi := m_Program___init__.fi) (us := [.ref m.length, w]) rfl rfl]
  show asRes (evSs (CL n) pd.tx.xn m_Program___init__.body [some (.ref m.length), some w] _) = _
  have hd' := Dat.app (x := [some (.ins k_Program [])]) hd
  cases e : lstW w with
  | none => simp [m_Program___init__, cl_g, isa_lst isaB hd', isLst_no e, sRaise_path, pathW]
  | some xs =>
    rw [e] at h
    have h : 12 < xs.length := by simpa using h
    have h' : (12 : Int) < xs.length := by omega
    simp [m_Program___init__, cl_g, isa_lst isaB hd', isLst_L e, len_L e, glo_INB, h', sRaise_path, pathW]
theorem init_bad {n : Nat} {m : M} {w : W} {xs : List W} {p : List Nat} (hd : Dat m w = true) (e : lstW w = some xs) (hl : xs.length ≤ 12) (hc : chkBlock 8 xs [] false "top" 0 = .error p) :
    ∃ J, pd.tx.call (n + 80) i_Program___init__ [.ref m.length, w] (m ++ [some (.ins k_Program [])]) = .exc k_NoProgram [(a_path, pathW p)] (m ++ J) := by
  rw [show n + 80 = n + 78 + 2 by omega, call_body (fi := m_Program___init__.fi) (us := [.ref m.length, w]) rfl rfl]
  have hd' := Dat.app (x := [some (.ins k_Program [])]) hd
  have hck := check_block_eq 7 0 (n := n + 51) rfl (m := m ++ [some (.ins k_Program [])]) (w := w) (block := xs) (place := []) (within := false) (kind := "top") (before := 0) rfl e (Dat_lstW hd' e)
  rw [hc] at hck
  obtain ⟨J, hJ⟩ := hck
  have h' : ¬ ((12 : Int) < xs.length) := by omega
  refine ⟨[some (.ins k_Program [])] ++ J, ?_⟩
  show asRes (evSs (CL (n + 78)) pd.tx.xn m_Program___init__.body [some (.ref m.length), some w] _) = _
  have hJ' : pd.tx.call (n + 78 + 1) i_check_block [w, .tup [], .bl false, .str "top", .int 0] (m ++ [some (.ins k_Program [])]) = .exc k_NoProgram [(a_path, pathW p)] (m ++ [some (.ins k_Program [])] ++ J) := hJ
  simp [m_Program___init__, cl_g, cl_c0, isa_lst isaB hd', isLst_L e, len_L e, glo_INB, h', hJ']
end MPT
end

section
set_option maxHeartbeats 4000000
/-! Spec9: Program(block) of a good block. -/
namespace MPT
open PySem PySem.Spec PyProof.Rows L2 MP
@[simp] theorem sFldPut_eq (g : Cn) (f : Nat) (ro rv : Sl → M → Res W) (σ : Sl) (m : M) : sFldPut g f ro rv σ m = thenS σ (rv σ m) fun y m1 => thenS σ (ro σ m1) fun x m2 => thenS σ (fldPut g f x y m2) fun _ m3 => .nx σ m3 := eqI rfl
theorem put_fld (m x : M) (fs : List (Nat × W)) (f : Nat) (w : W) (hf : f ∈ pd.flds k_Program) (hl : fs.length < 1000) : fldPut pd.tx.g f (.ref m.length) w (m ++ some (.ins k_Program fs) :: x) = .ok () (m ++ some (.ins k_Program (putN f w fs)) :: x) := by
  have e := get_app m (some (O.ins k_Program fs) :: x) 0
  rw [Nat.add_zero] at e
  have e2 := set_app m (some (O.ins k_Program fs) :: x) 0 (some (.ins k_Program (putN f w fs)))
  rw [Nat.add_zero] at e2
  simp only [fldPut, e, List.getElem?_cons_zero]
  rw [if_pos ⟨hf, hl⟩]
  simp only [setO, e2, List.set_cons_zero]
@[simp] theorem eDnew_eq (σ : Sl) (m : M) : eDnew true σ m = .ok (.ref m.length) (m ++ [some (.dT [])]) := eqI rfl
theorem eD1_ref (σ : Sl) (m : M) : eD1 (eTup eNil) (eLst false eNil) σ m = .ok (.ref m.length) (m ++ [some (.dT [([], .ref (m.length + 1))]), some (.lst [])]) := by
  have e := get_app m [some (O.dT []), some (O.lst [])] 0
  have e2 := set_app m [some (O.dT []), some (O.lst [])] 0 (some (.dT [([], .ref (m.length + 1))]))
  rw [Nat.add_zero] at e e2
  simp [eD1, keysOf1, e]
  try exact e2
theorem eD1_val (σ : Sl) (m : M) (w : W) : eD1 (eTup eNil) (eC w) σ m = .ok (.ref m.length) (m ++ [some (.dT [([], w)])]) := by
  have e := get_app m [some (O.dT [])] 0
  have e2 := set_app m [some (O.dT [])] 0 (some (.dT [([], w)]))
  rw [Nat.add_zero] at e e2
  simp [eD1, keysOf1, e]
  try exact e2
theorem init_ok {n : Nat} {m : M} {xs : List W} {many : Nat} {z : Str} (hd : Dat m (.lst xs) = true) (hcp : Cpy (.lst xs) = true) (hdp : dep (.lst xs) ≤ 60) (hl : xs.length ≤ 12) (hc : chkBlock 8 xs [] false "top" 0 = .ok many)
    (hr : ∀ x, reprSem (.lst xs) (m ++ x) = .ok (.str z) (m ++ x)) :
    ∃ J, pd.tx.call (n + 80) i_Program___init__ [.ref m.length, .lst xs] (m ++ [some (.ins k_Program [])]) = .ok .non (m ++ some (.ins k_Program (progFs (.lst xs) (m.length + (J.length + 1)) ++ [(a_written, .str z)])) :: (J ++ (keepBlock 8 (.lst xs) [] [] (KS0 (m.length + (J.length + 1)))).mem)) := by
  rw [show n + 80 = n + 78 + 2 by omega, call_body (fi := m_Program___init__.fi) (us := [.ref m.length, .lst xs]) rfl rfl]
  have hd' := Dat.app (x := [some (.ins k_Program [])]) hd
  have hck := check_block_eq 7 0 (n := n + 51) rfl (m := m ++ [some (.ins k_Program [])]) (w := .lst xs) (block := xs) (place := []) (within := false) (kind := "top") (before := 0) rfl rfl (Dat_lstW hd' rfl)
  rw [hc] at hck
  obtain ⟨J, hJ⟩ := hck
  have h' : ¬ ((12 : Int) < xs.length) := by omega
  refine ⟨J, ?_⟩
  show asRes (evSs (CL (n + 78)) pd.tx.xn m_Program___init__.body [some (.ref m.length), some (.lst xs)] _) = _
  have hJ' : pd.tx.call (n + 78 + 1) i_check_block [.lst xs, .tup [], .bl false, .str "top", .int 0] (m ++ [some (.ins k_Program [])]) = .ok (.int many) (m ++ some (.ins k_Program []) :: J) := by
    rw [show m ++ some (O.ins k_Program []) :: J = m ++ [some (.ins k_Program [])] ++ J by simp]
    exact hJ
  have hdc : pd.tx.call (n + 78 + 1) i_deep_copy [.lst xs] (m ++ some (.ins k_Program []) :: J) = .ok (.lst xs) (m ++ some (.ins k_Program []) :: J) := by
    rw [show n + 78 + 1 = (n + 17) + 60 + 2 by omega]
    exact deep_copy_eq 60 hdp hcp (Dat.app _ hd)
  have b0 : (k_Program : Nat) = k_Program := rfl
  have f1 : a_top ∈ pd.flds k_Program := by decide
  have f2 : a_order ∈ pd.flds k_Program := by decide
  have f3 : a_statements ∈ pd.flds k_Program := by decide
  have f4 : a_owners ∈ pd.flds k_Program := by decide
  have f5 : a_blocks ∈ pd.flds k_Program := by decide
  have f6 : a_parameters ∈ pd.flds k_Program := by decide
  have f7 : a_kinds_of_codes ∈ pd.flds k_Program := by decide
  have f8 : a_written ∈ pd.flds k_Program := by decide
  have hL : ∀ (fs : List (Nat × W)) (x : M), (m ++ some (O.ins k_Program fs) :: (J ++ x)).length = m.length + (J.length + 1) + x.length := fun fs x => by simp; omega
  have hL0 : ∀ (fs : List (Nat × W)), (m ++ some (O.ins k_Program fs) :: J).length = m.length + (J.length + 1) := fun fs => by simp
  have ha : ∀ (fs : List (Nat × W)) (x y : M), (m ++ some (O.ins k_Program fs) :: (J ++ x)) ++ y = m ++ some (O.ins k_Program fs) :: (J ++ (x ++ y)) := fun fs x y => by simp
  have ha0 : ∀ (fs : List (Nat × W)) (y : M), (m ++ some (O.ins k_Program fs) :: J) ++ y = m ++ some (O.ins k_Program fs) :: (J ++ y) := fun fs y => by simp
  generalize hLd : m.length + (J.length + 1) = L at hL hL0
  simp [m_Program___init__, cl_g, cl_c0, isa_lst isaB hd', isLstW, glo_INB, h', hJ', hdc]
  rw [put_fld m J [] a_top (.lst xs) f1 (by simp)]
  simp only [thenS_ok, SR.andThen_nx, sSeq_eq, sFldPut_eq, eLst_eq, eNil_eq, Res.bind_ok, mkLst_new _ _ (by simp : ([] : List W).length ≤ 1000), eVar_eq, List.getElem?_cons_zero, List.getElem?_cons_succ, varK_some, hL0, ha0]
  rw [put_fld m _ _ a_order _ f2 (by simp [putN, a_top, a_order, a_statements, a_owners, a_blocks, a_parameters, a_kinds_of_codes])]
  simp only [thenS_ok, SR.andThen_nx, sSeq_eq, sFldPut_eq, eDnew_eq, Res.bind_ok, eVar_eq, List.getElem?_cons_zero, List.getElem?_cons_succ, varK_some, hL, ha]
  rw [put_fld m _ _ a_statements _ f3 (by simp [putN, a_top, a_order, a_statements, a_owners, a_blocks, a_parameters, a_kinds_of_codes])]
  simp only [thenS_ok, SR.andThen_nx, sSeq_eq, sFldPut_eq, eDnew_eq, Res.bind_ok, eVar_eq, List.getElem?_cons_zero, List.getElem?_cons_succ, varK_some, hL, ha]
  rw [put_fld m _ _ a_owners _ f4 (by simp [putN, a_top, a_order, a_statements, a_owners, a_blocks, a_parameters, a_kinds_of_codes])]
  simp only [thenS_ok, SR.andThen_nx, sSeq_eq, sFldPut_eq, eDnew_eq, Res.bind_ok, eVar_eq, List.getElem?_cons_zero, List.getElem?_cons_succ, varK_some, hL, ha]
  rw [put_fld m _ _ a_blocks _ f5 (by simp [putN, a_top, a_order, a_statements, a_owners, a_blocks, a_parameters, a_kinds_of_codes])]
  simp only [thenS_ok, SR.andThen_nx, sSeq_eq, sFldPut_eq, eD1_ref, Res.bind_ok, eVar_eq, List.getElem?_cons_zero, List.getElem?_cons_succ, varK_some, hL, ha]
  rw [put_fld m _ _ a_parameters _ f6 (by simp [putN, a_top, a_order, a_statements, a_owners, a_blocks, a_parameters, a_kinds_of_codes])]
  simp only [thenS_ok, SR.andThen_nx, sSeq_eq, sFldPut_eq, eD1_val, Res.bind_ok, eVar_eq, List.getElem?_cons_zero, List.getElem?_cons_succ, varK_some, hL, ha]
  rw [put_fld m _ _ a_kinds_of_codes _ f7 (by simp [putN, a_top, a_order, a_statements, a_owners, a_blocks, a_parameters, a_kinds_of_codes])]
  generalize hfs : putN a_kinds_of_codes _ _ = fs
  have hfs' : fs = progFs (.lst xs) L := by rw [← hfs]; rfl
  subst hfs'
  clear hfs
  have P : PObj (m ++ some (O.ins k_Program (progFs (.lst xs) L)) :: J) m.length (.lst xs) := by
    unfold PObj
    rw [hL0]
    have e := get_app m (some (O.ins k_Program (progFs (.lst xs) L)) :: J) 0
    rw [Nat.add_zero] at e
    exact e
  have hmem : ∀ x : M, m ++ some (O.ins k_Program (progFs (.lst xs) L)) :: (J ++ x) = (m ++ some (O.ins k_Program (progFs (.lst xs) L)) :: J) ++ x := fun x => by simp
  obtain ⟨ok8, _, wt8, m80⟩ := chk_ok 7 0 rfl (b := .lst xs) (place := []) rfl rfl hc
  have hz : (KS0 L).size + wt 8 (.lst xs) ≤ 80000 := by
    have h1 : (KS0 L).size = 2 := rfl
    have h2 := m80 (by omega)
    have wt8 : wt 8 (.lst xs) ≤ 1 + 15 * (many - 0) := wt8
    omega
  obtain ⟨kb, _⟩ := keep_block_eq 8 (n := n + 66) (b := .lst xs) (place := []) (code := []) (s := KS0 L) P ok8 (by simp) hz
  simp only [thenS_ok, SR.andThen_nx, sSeq_eq, sDrop_eq]
  have hm0 : m ++ some (O.ins k_Program (progFs (.lst xs) L)) :: (J ++ ([some (O.lst [])] ++ [some (O.dT [])] ++ [some (O.dT [])] ++ [some (O.dT [])] ++ [some (O.dT [([], W.ref (L + List.length ([some (O.lst [])] ++ [some (O.dT [])] ++ [some (O.dT [])] ++ [some (O.dT [])]) + 1))]), some (O.lst [])] ++ [some (O.dT [([], W.str (Str.ofString "top"))])])) = (m ++ some (O.ins k_Program (progFs (.lst xs) L)) :: J) ++ (KS0 L).mem := by
    simp [KS.mem, KS0]
  rw [hm0, meth_kb P _ _ _ rfl]
  simp only [eCons_eq, one_eq, eVar_eq, List.getElem?_cons_zero, varK_some, Res.bind_ok, fld_top P, eTup_eq, eNil_eq, mkTup_short _ _ (by simp : ([] : List W).length ≤ 1000)]
  have kb' : pd.tx.call (n + 78 + 1) i_Program_keep_block [.ref m.length, .lst xs, .tup [], .tup []] ((m ++ some (O.ins k_Program (progFs (.lst xs) L)) :: J) ++ (KS0 L).mem) = .ok .non ((m ++ some (O.ins k_Program (progFs (.lst xs) L)) :: J) ++ (keepBlock 8 (.lst xs) [] [] (KS0 L)).mem) := kb
  rw [kb']
  simp only [thenS_ok, SR.andThen_nx, sFldPut_eq, eCall_eq, eCons_eq, one_eq, eVar_eq, List.getElem?_cons_zero, varK_some, Res.bind_ok, fld_top P, eNil_eq]
  have hrr : bfSem .repr [.lst xs] ((m ++ some (O.ins k_Program (progFs (.lst xs) L)) :: J) ++ (keepBlock 8 (.lst xs) [] [] (KS0 L)).mem) = .ok (.str z) ((m ++ some (O.ins k_Program (progFs (.lst xs) L)) :: J) ++ (keepBlock 8 (.lst xs) [] [] (KS0 L)).mem) := by
    rw [List.append_assoc]
    exact hr _
  rw [hrr]
  simp only [thenS_ok]
  rw [← hmem, put_fld m _ _ a_written _ f8 (by simp [progFs])]
  simp only [thenS_ok, asRes_nx]
  rfl
end MPT
end

section
set_option maxHeartbeats 4000000
/-! Good: blocks that keep the rules, and how many statements they have. -/
namespace MPT
open PySem PySem.Spec PyProof.Rows L2 MP

/-- a block at depth 9 - fuel that keeps the rules, the number of all statements aside -/
def gB : Nat → Bool → Str → W → Bool
  | 0, _, _, _ => false
  | f + 1, within, kind, b => match lstW b with
    | some xs => decide (xs.length ≤ 12) && allB (fun w => isStmt w && !misplaced w (8 - (f : Int)) within kind && allB (gB f (withinIn w within) (kindIn w kind)) (blocksOf w)) xs
    | none => false
/-- a statement at depth 8 - f -/
def gS (f : Nat) (within : Bool) (kind : Str) (w : W) : Bool := isStmt w && !misplaced w (8 - (f : Int)) within kind && allB (gB f (withinIn w within) (kindIn w kind)) (blocksOf w)
theorem gB_iff {f : Nat} {within : Bool} {kind : Str} {b : W} : gB (f + 1) within kind b = true ↔ ∃ xs, lstW b = some xs ∧ xs.length ≤ 12 ∧ ∀ x ∈ xs, gS f within kind x = true := by
  show (match lstW b with
    | some xs => decide (xs.length ≤ 12) && allB (gS f within kind) xs
    | none => false) = true ↔ _
  cases e : lstW b with
  | none => simp
  | some xs => simp [MP.allB_iff]
theorem gS_iff {f : Nat} {within : Bool} {kind : Str} {w : W} : gS f within kind w = true ↔ isStmt w = true ∧ misplaced w (8 - (f : Int)) within kind = false ∧ ∀ b ∈ blocksOf w, gB f (withinIn w within) (kindIn w kind) b = true := by
  unfold gS
  simp only [Bool.and_eq_true, MP.allB_iff, Bool.not_eq_true', and_assoc]
/-- how many statements -/
def cntB : Nat → W → Nat
  | 0, _ => 0
  | f + 1, b => (((lstW b).getD []).map fun w => 1 + ((blocksOf w).map (cntB f)).sum).sum
def cntS (f : Nat) (w : W) : Nat := 1 + ((blocksOf w).map (cntB f)).sum
theorem cntB_L {f : Nat} {b : W} {xs : List W} (e : lstW b = some xs) : cntB (f + 1) b = (xs.map (cntS f)).sum := by
  show ((((lstW b).getD []).map fun w => 1 + ((blocksOf w).map (cntB f)).sum).sum) = _
  rw [e]; rfl
theorem chk_good : ∀ (f j : Nat), f + j = 8 → ∀ {b : W} {place : List Nat} {within : Bool} {kind : Str} {before : Nat}, place.length = 2 * j → gB f within kind b = true → before + cntB f b ≤ 80 →
    chkBlock f ((lstW b).getD []) place within kind before = .ok (before + cntB f b)
  | 0, _, _, _, _, _, _, _, _, h, _ => by simp [gB] at h
  | f + 1, j, hj, b, place, within, kind, before, hp, h, hc => by
    obtain ⟨xs, e, hl, hx⟩ := gB_iff.mp h
    rw [cntB_L e] at hc ⊢
    rw [e]
    have inner : ∀ (w : W) (i : Nat) (bs : List W) (k many : Nat), (∀ b ∈ bs, gB f (withinIn w within) (kindIn w kind) b = true) → many + (bs.map (cntB f)).sum ≤ 80 →
        runX (fun many k b => chkBlock f ((lstW b).getD []) (place ++ [i, k]) (withinIn w within) (kindIn w kind) many) many k bs = .ok (many + (bs.map (cntB f)).sum) := by
      intro w i bs
      induction bs with
      | nil => intro k many _ _; simp [runX]
      | cons b bs ih =>
        intro k many hb hm
        rw [List.map_cons, List.sum_cons] at hm ⊢
        have h1 := chk_good f (j + 1) (by omega) (b := b) (place := place ++ [i, k]) (within := withinIn w within) (kind := kindIn w kind) (before := many) (by simp [hp]; omega) (hb b (List.mem_cons_self ..)) (by omega)
        have h2 := ih (k + 1) (many + cntB f b) (fun x hx => hb x (List.mem_cons_of_mem _ hx)) (by omega)
        simp only [runX, h1]
        rw [h2, Nat.add_assoc]
    have hd : ((place.length : Int) / 2 + 1) = 8 - (f : Int) := by rw [hp]; omega
    have outer : ∀ (xs : List W) (k many : Nat), (∀ x ∈ xs, gS f within kind x = true) → k + xs.length ≤ 12 → many + (xs.map (cntS f)).sum ≤ 80 →
        runX (fun many i st => if i = 12 ∨ many = 80 ∨ isStmt st = false then .error (place ++ [i]) else if misplaced st ((place.length : Int) / 2 + 1) within kind = true then .error (place ++ [i]) else
          runX (fun many k b => chkBlock f ((lstW b).getD []) (place ++ [i, k]) (withinIn st within) (kindIn st kind) many) (many + 1) 0 (blocksOf st)) many k xs = .ok (many + (xs.map (cntS f)).sum) := by
      intro xs
      induction xs with
      | nil => intro k many _ _ _; simp [runX]
      | cons x xs ih =>
        intro k many hx hk hm
        rw [List.map_cons, List.sum_cons] at hm ⊢
        rw [List.length_cons] at hk
        obtain ⟨g1, g2, g3⟩ := gS_iff.mp (hx x (List.mem_cons_self ..))
        have hc1 : cntS f x = 1 + ((blocksOf x).map (cntB f)).sum := rfl
        have h1 := inner x k (blocksOf x) 0 (many + 1) g3 (by omega)
        have h2 := ih (k + 1) (many + cntS f x) (fun y hy => hx y (List.mem_cons_of_mem _ hy)) (by omega) (by omega)
        simp only [runX]
        rw [if_neg (by rw [g1]; simp; omega), if_neg (by rw [hd, g2]; simp)]
        rw [h1]
        simp only
        rw [show many + 1 + ((blocksOf x).map (cntB f)).sum = many + cntS f x by omega, h2, Nat.add_assoc]
    show runX _ before 0 xs = _
    exact outer xs 0 before hx (by omega) hc

/-! ### statements from their parts -/
theorem stmt_simple {word : Str} {rest : List W} (h : Simple word rest) : isStmt (.tup (.str word :: rest)) = true := by
  cases h <;> simp [isStmt, memS, isSimple, signsOf, tab_let, tab_set, tab_put, tab_place, tab_add, tab_cut, tab_say, tab_ask, tab_leave, tab_give, tab_raise]
  all_goals first
    | (rw [show (Str.ofString "ne").cps.toList = [110, 101] by decide +kernel]; simp [fitsAll, fitsC, *]; done)
    | (rw [show (Str.ofString "ene").cps.toList = [101, 110, 101] by decide +kernel]; simp [fitsAll, fitsC, *]; done)
    | (rw [show (Str.ofString "eee").cps.toList = [101, 101, 101] by decide +kernel]; simp [fitsAll, fitsC, *]; done)
    | (rw [show (Str.ofString "ee").cps.toList = [101, 101] by decide +kernel]; simp [fitsAll, fitsC, *]; done)
    | (rw [show (Str.ofString "np").cps.toList = [110, 112] by decide +kernel]; simp [fitsAll, fitsC, *]; done)
    | (rw [show (Str.ofString "e").cps.toList = [101] by decide +kernel]; simp [fitsAll, fitsC, *]; done)
    | (rw [show (Str.ofString "").cps.toList = [] by decide +kernel]; simp [fitsAll, fitsC, *]; done)
theorem stmt_of {w : W} (h : Shape w) : isStmt w = true := by
  cases h with
  | simple h => exact stmt_simple h
  | call h1 h2 h3 h4 h5 h6 => simp only [isStmt]; rw [if_neg (by decide), if_pos trivial]; simp [isCall, h1, h2, h3, h4, h5, h6]
  | if_ h1 h2 h3 => simp [isStmt, memS, isCompound, h1, h2, h3]
  | while_ h1 h2 => simp [isStmt, memS, isCompound, h1, h2]
  | try_ h => simp [isStmt, memS, isCompound, h]
  | def_ h1 h2 h3 => simp [isStmt, memS, isCompound, h1, h2, h3]
  | class_ h1 h2 h3 h4 => simp only [Bool.or_eq_true] at h2; simp [isStmt, memS, isCompound, h1, h2, h3, h4]
end MPT
end

section
set_option maxHeartbeats 4000000
/-! Prog: what a program keeps, told by lists. -/
namespace MPT
open PySem PySem.Spec PyProof.Rows L2 MP

/-! ### dicts -/
section
variable {κ : Type} [DecidableEq κ]
theorem dGet_nil (k : κ) : dGet ([] : List (κ × W)) k = none := rfl
theorem dGet_cons (e : κ × W) (d : List (κ × W)) (k : κ) : dGet (e :: d) k = if e.1 = k then some e.2 else dGet d k := by
  unfold dGet
  by_cases h : e.1 = k
  · rw [List.find?_cons_of_pos (by simpa using h), if_pos h]; rfl
  · rw [List.find?_cons_of_neg (by simpa using h), if_neg h]
theorem dGet_app (d d' : List (κ × W)) (k : κ) : dGet (d ++ d') k = match dGet d k with
    | some w => some w
    | none => dGet d' k := by
  induction d with
  | nil => simp [dGet_nil]
  | cons e d ih =>
    rw [List.cons_append, dGet_cons, dGet_cons, ih]
    split <;> rfl
theorem dGet_none {d : List (κ × W)} {k : κ} (h : ∀ e ∈ d, e.1 ≠ k) : dGet d k = none := by
  induction d with
  | nil => rfl
  | cons e d ih =>
    rw [dGet_cons, if_neg (h e (List.mem_cons_self ..))]
    exact ih fun x hx => h x (List.mem_cons_of_mem _ hx)
theorem dGet_mem {d : List (κ × W)} {k : κ} {w : W} (hn : (d.map (·.1)).Nodup) (h : (k, w) ∈ d) : dGet d k = some w := by
  induction d with
  | nil => cases h
  | cons e d ih =>
    rw [List.map_cons, List.nodup_cons] at hn
    rw [dGet_cons]
    rcases List.mem_cons.mp h with h | h
    · subst h; simp
    · have : e.1 ≠ k := fun z => hn.1 (z ▸ List.mem_map_of_mem (f := (·.1)) h)
      rw [if_neg this]
      exact ih hn.2 h
theorem dGet_some {d : List (κ × W)} {k : κ} {w : W} (h : dGet d k = some w) : (k, w) ∈ d := by
  induction d with
  | nil => cases h
  | cons e d ih =>
    rw [dGet_cons] at h
    split at h
    · rename_i hk
      cases h
      subst hk
      exact List.mem_cons_self ..
    · exact List.mem_cons_of_mem _ (ih h)
theorem putD_new {d : List (κ × W)} {k : κ} {w : W} (h : ∀ e ∈ d, e.1 ≠ k) : putD d k w = d ++ [(k, w)] := by
  unfold putD
  rw [if_neg]
  rw [Bool.not_eq_true, List.any_eq_false]
  intro e he
  simpa using h e he
theorem dGet_put (d : List (κ × W)) (k k' : κ) (w : W) : dGet (putD d k w) k' = if k = k' then some w else dGet d k' := by
  by_cases ha : (d.any fun kv => decide (kv.1 = k)) = true
  · unfold putD
    rw [if_pos ha]
    induction d with
    | nil => simp at ha
    | cons e d ih =>
      rw [List.map_cons, dGet_cons, dGet_cons]
      by_cases he : e.1 = k
      · rw [if_pos he]
        by_cases hk : k = k'
        · rw [if_pos (he.trans hk), if_pos hk]
        · rw [if_neg hk, if_neg (fun z => hk (he ▸ z)), if_neg (fun z => hk (he ▸ z))]
          clear ih ha
          induction d with
          | nil => rfl
          | cons e2 d ih2 =>
            rw [List.map_cons, dGet_cons, dGet_cons, ih2]
            have hk' : ∀ z : e2.1 = k, e2.1 ≠ k' := fun z y => hk (z.symm.trans y)
            by_cases h2 : e2.1 = k
            · simp [h2, hk]
            · rw [if_neg h2]
      · rw [if_neg he]
        simp only [List.any_cons, he, decide_false, Bool.false_or] at ha
        rw [ih ha]
        by_cases h2 : e.1 = k'
        · rw [if_pos h2, if_pos h2, if_neg (fun z => he (h2.trans z.symm))]
        · rw [if_neg h2, if_neg h2]
  · rw [putD_new (fun e he z => ha (List.any_eq_true.mpr ⟨e, he, by simpa using z⟩)), dGet_app, dGet_cons]
    cases e : dGet d k' with
    | none => rfl
    | some x =>
      by_cases hk : k = k'
      · subst hk
        have := dGet_some e
        exact absurd (List.any_eq_true.mpr ⟨_, this, by simp⟩) ha
      · simp [hk]
def putAll (d l : List (κ × W)) : List (κ × W) := l.foldl (fun d e => putD d e.1 e.2) d
theorem putAll_nil (d : List (κ × W)) : putAll d [] = d := rfl
theorem putAll_app (d l l' : List (κ × W)) : putAll d (l ++ l') = putAll (putAll d l) l' := by unfold putAll; rw [List.foldl_append]
theorem putAll_cons (d : List (κ × W)) (e : κ × W) (l : List (κ × W)) : putAll d (e :: l) = putAll (putD d e.1 e.2) l := rfl
theorem putAll_get_none {l d : List (κ × W)} {k : κ} (h : ∀ e ∈ l, e.1 ≠ k) : dGet (putAll d l) k = dGet d k := by
  induction l generalizing d with
  | nil => rfl
  | cons e l ih =>
    rw [putAll_cons, ih (fun x hx => h x (List.mem_cons_of_mem _ hx)), dGet_put, if_neg (h e (List.mem_cons_self ..))]
theorem putAll_new {l d : List (κ × W)} (hn : (l.map (·.1)).Nodup) (h : ∀ e ∈ l, ∀ x ∈ d, x.1 ≠ e.1) : putAll d l = d ++ l := by
  induction l generalizing d with
  | nil => simp [putAll_nil]
  | cons e l ih =>
    rw [List.map_cons, List.nodup_cons] at hn
    rw [putAll_cons, putD_new (h e (List.mem_cons_self ..)), ih hn.2, List.append_assoc]
    · rfl
    · intro x hx y hy
      rcases List.mem_append.mp hy with hy | hy
      · exact h x (List.mem_cons_of_mem _ hx) y hy
      · rw [List.mem_singleton.mp hy]
        exact fun z => hn.1 (z ▸ List.mem_map_of_mem (f := (·.1)) hx)
end
/-! ### what is put in -/
def KS.nl : KS := ⟨[], [], [], [], [], []⟩
def KS.app (s t : KS) : KS := ⟨s.ord ++ t.ord, s.st ++ t.st, s.ow ++ t.ow, s.bl ++ t.bl, s.par ++ t.par, s.knd ++ t.knd⟩
def KS.puts (s t : KS) : KS := ⟨s.ord ++ t.ord, putAll s.st t.st, putAll s.ow t.ow, putAll s.bl t.bl, putAll s.par t.par, putAll s.knd t.knd⟩
theorem puts_nl (s : KS) : s.puts .nl = s := by simp [KS.puts, KS.nl, putAll_nil]
theorem puts_app (s t u : KS) : s.puts (t.app u) = (s.puts t).puts u := by simp [KS.puts, KS.app, putAll_app]
def kJ (g : Nat → W → KS) : Nat → List W → KS
  | _, [] => .nl
  | k, x :: xs => (g k x).app (kJ g (k + 1) xs)
def kCodes (p : List Nat) (w : W) : KS := if hasCodes w then
  ⟨[], [], [], [], (List.range (blocksOf w).length).map (fun k => (keyP (p ++ [k]), (paramsAt w).getD k .non)), (List.range (blocksOf w).length).map (fun k => (keyP (p ++ [k]), W.str (kindIn w "top")))⟩ else .nl
def kS (rec : W → List Nat → List Nat → KS) (place code : List Nat) (k : Nat) (w : W) : KS :=
  (⟨[pathW (place ++ [k])], [(keyP (place ++ [k]), w)], [(keyP (place ++ [k]), pathW code)], [], [], []⟩ : KS).app
    ((kCodes (place ++ [k]) w).app (kJ (fun j b => rec b (place ++ [k] ++ [j]) (if hasCodes w then place ++ [k] ++ [j] else code)) 0 (blocksOf w)))
def kB : Nat → W → List Nat → List Nat → KS
  | 0, _, _, _ => .nl
  | f + 1, b, place, code => (⟨[], [], [], [(keyP place, b)], [], []⟩ : KS).app (kJ (kS (kB f) place code) 0 ((lstW b).getD []))
theorem keyP_inj : ∀ {p q : List Nat}, keyP p = keyP q → p = q
  | [], [], _ => rfl
  | [], _ :: _, h => by simp [keyP] at h
  | _ :: _, [], h => by simp [keyP] at h
  | a :: p, b :: q, h => by
    simp only [keyP, List.map_cons, List.cons.injEq] at h
    have h1 : a = b := by
      have : (a : Int) = (b : Int) := by simpa using h.1
      omega
    rw [h1, keyP_inj (p := p) (q := q) h.2]
/-- the codes that a part adds stand below it -/
def ParU (p : List Nat) (t : KS) : Prop := ∀ e ∈ t.par, ∃ q, q ≠ [] ∧ e.1 = keyP (p ++ q)
theorem parU_app {p : List Nat} {s t : KS} (a : ParU p s) (b : ParU p t) : ParU p (s.app t) := fun e he => by
  rcases List.mem_append.mp he with he | he
  · exact a e he
  · exact b e he
theorem parU_kJ {p : List Nat} {g : Nat → W → KS} : ∀ {xs : List W} {k : Nat}, (∀ j x, ParU (p ++ [j]) (g j x)) → ParU p (kJ g k xs)
  | [], _, _ => fun e he => by cases he
  | x :: xs, k, h => parU_app (fun e he => by
      obtain ⟨q, h1, h2⟩ := h k x e he
      exact ⟨k :: q, by simp, by rw [h2, List.append_assoc]; rfl⟩) (parU_kJ h)
theorem parU_codes (p : List Nat) (w : W) : ParU p (kCodes p w) := fun e he => by
  unfold kCodes at he
  split at he
  · obtain ⟨k, _, rfl⟩ := List.mem_map.mp he
    exact ⟨[k], by simp, rfl⟩
  · cases he
theorem parU_kS {rec : W → List Nat → List Nat → KS} (hr : ∀ b p c, ParU p (rec b p c)) (place code : List Nat) (k : Nat) (w : W) : ParU (place ++ [k]) (kS rec place code k w) :=
  parU_app (fun e he => by cases he) (parU_app (parU_codes _ _) (parU_kJ fun j x => hr _ _ _))
theorem parU_kB : ∀ (f : Nat) (b : W) (place code : List Nat), ParU place (kB f b place code)
  | 0, _, _, _ => fun e he => by cases he
  | f + 1, b, place, code => parU_app (fun e he => by cases he) (parU_kJ fun j x => parU_kS (fun b p c => parU_kB f b p c) place code j x)
theorem keepCodes_eq {p : List Nat} {w : W} (s : KS) : keepCodes p w s = s.puts (kCodes p w) := by
  unfold keepCodes kCodes codesAt
  by_cases h : hasCodes w = true
  · rw [if_pos h, if_pos h]
    have : ∀ (n k : Nat) (s : KS), foldI (keepCode p w) s k ((List.range' k n).map fun k => pathW (p ++ [k])) = s.puts ⟨[], [], [], [], (List.range' k n).map (fun k => (keyP (p ++ [k]), (paramsAt w).getD k .non)), (List.range' k n).map (fun k => (keyP (p ++ [k]), W.str (kindIn w "top")))⟩ := by
      intro n
      induction n with
      | zero => intro k s; simp [foldI, KS.puts, putAll_nil]
      | succ n ih =>
        intro k s
        rw [List.range'_succ, List.map_cons, foldI, ih]
        simp only [keepCode, KS.puts, List.map_cons, putAll_cons, List.append_nil, putAll_nil]
    have := this (blocksOf w).length 0 s
    rw [← List.range_eq_range'] at this
    exact this
  · rw [if_neg h, if_neg h, puts_nl]
    rfl
theorem keep_kB : ∀ (f : Nat) (b : W) (place code : List Nat) (s : KS), (∀ q, q ≠ [] → dGet s.par (keyP (place ++ q)) = none) → keepBlock f b place code s = s.puts (kB f b place code)
  | 0, _, _, _, s, _ => (puts_nl s).symm
  | f + 1, b, place, code, s, h => by
    have inner : ∀ (w : W) (p : List Nat) (xs : List W) (ys : List W) (k : Nat) (s : KS), (blocksOf w).drop k = xs → ys.length = xs.length → (∀ j, k ≤ j → j < k + xs.length → (dGet s.par (keyP (p ++ [j]))).isSome = hasCodes w) → (∀ j q, k ≤ j → q ≠ [] → dGet s.par (keyP (p ++ [j] ++ q)) = none) →
        foldI (keepInner (keepBlock f) p code (blocksOf w)) s k ys = s.puts (kJ (fun j b => kB f b (p ++ [j]) (if hasCodes w then p ++ [j] else code)) k xs) := by
      intro w p xs
      induction xs with
      | nil =>
        intro ys k s _ hl _ _
        have : ys = [] := List.length_eq_zero_iff.mp hl
        subst this
        simp [foldI, kJ, puts_nl]
      | cons x xs ih =>
        intro ys k s hd hl h1 h2
        obtain ⟨y, ys, rfl⟩ : ∃ y ys', ys = y :: ys' := by
          cases ys with
          | nil => simp at hl
          | cons y ys => exact ⟨y, ys, rfl⟩
        have hx : (blocksOf w).getD k .non = x := by
          have : (blocksOf w)[k]? = some x := by
            have := congrArg (·[0]?) hd
            simpa using this
          rw [List.getD_eq_getElem?_getD, this]; rfl
        have step : keepInner (keepBlock f) p code (blocksOf w) s k y = s.puts (kB f x (p ++ [k]) (if hasCodes w then p ++ [k] else code)) := by
          unfold keepInner
          rw [h1 k (Nat.le_refl _) (by simp), hx]
          cases hasCodes w with
          | true => simp only [if_true]; exact keep_kB f x _ _ s fun q hq => h2 k q (Nat.le_refl _) hq
          | false => simp only [Bool.false_eq_true, if_false]; exact keep_kB f x _ _ s fun q hq => h2 k q (Nat.le_refl _) hq
        rw [foldI, step, kJ, puts_app]
        have ne : ∀ (j : Nat) (q : List Nat), k + 1 ≤ j → ∀ e ∈ (kB f x (p ++ [k]) (if hasCodes w then p ++ [k] else code)).par, e.1 ≠ keyP (p ++ [j] ++ q) := by
          intro j q hj e he z
          obtain ⟨r, _, hr⟩ := parU_kB f x _ _ e he
          have := keyP_inj (hr.symm.trans z)
          simp only [List.append_assoc, List.append_cancel_left_eq, List.singleton_append, List.cons.injEq] at this
          omega
        refine ih ys (k + 1) _ ?_ (by simpa using hl) (fun j hj hj2 => ?_) (fun j q hj hq => ?_)
        · rw [← List.drop_drop, hd]; rfl
        · refine Eq.trans ?_ (h1 j (by omega) (by simp; omega))
          show (dGet (putAll s.par _) _).isSome = _
          rw [putAll_get_none]
          have := ne j [] hj
          rw [List.append_nil] at this
          exact this
        · show dGet (putAll s.par _) _ = none
          rw [putAll_get_none (ne j q hj)]
          exact h2 j q (by omega) hq
    have outer : ∀ (xs : List W) (k : Nat) (s : KS), (∀ j q, k ≤ j → dGet s.par (keyP (place ++ [j] ++ q)) = none) → foldI (keepStmt (keepBlock f) place code) s k xs = s.puts (kJ (kS (kB f) place code) k xs) := by
      intro xs
      induction xs with
      | nil => intro k s _; simp [foldI, kJ, puts_nl]
      | cons x xs ih =>
        intro k s hs
        rw [foldI, kJ, puts_app]
        have step : keepStmt (keepBlock f) place code s k x = s.puts (kS (kB f) place code k x) := by
          unfold keepStmt kS
          simp only
          rw [keepCodes_eq]
          have e0 : ({ s with ord := s.ord ++ [pathW (place ++ [k])], st := putD s.st (keyP (place ++ [k])) x, ow := putD s.ow (keyP (place ++ [k])) (pathW code) } : KS) = s.puts ⟨[pathW (place ++ [k])], [(keyP (place ++ [k]), x)], [(keyP (place ++ [k]), pathW code)], [], [], []⟩ := by
            simp [KS.puts, putAll_cons, putAll_nil]
          rw [e0, puts_app, puts_app]
          have hp : ((s.puts ⟨[pathW (place ++ [k])], [(keyP (place ++ [k]), x)], [(keyP (place ++ [k]), pathW code)], [], [], []⟩).puts (kCodes (place ++ [k]) x)).par = putAll s.par (kCodes (place ++ [k]) x).par := by
            simp [KS.puts, putAll_nil]
          refine inner x (place ++ [k]) (blocksOf x) _ 0 _ rfl (by simp) (fun j _ hj => ?_) (fun j q _ hq => ?_)
          · rw [hp]
            cases hc : hasCodes x with
            | true =>
              have key : ∀ (l : List (List Key × W)) (d : List (List Key × W)) (K : List Key), (∃ v, (K, v) ∈ l) ∨ (dGet d K).isSome = true → (dGet (putAll d l) K).isSome = true := by
                intro l
                induction l with
                | nil => intro d K h; rcases h with ⟨v, hv⟩ | h; cases hv; exact h
                | cons e l ih2 =>
                  intro d K h
                  rw [putAll_cons]
                  rcases h with ⟨v, hv⟩ | h
                  · rcases List.mem_cons.mp hv with hv | hv
                    · subst hv
                      exact ih2 _ _ (.inr (by rw [dGet_put, if_pos rfl]; rfl))
                    · exact ih2 _ _ (.inl ⟨v, hv⟩)
                  · refine ih2 _ _ (.inr ?_)
                    rw [dGet_put]
                    split
                    · rfl
                    · exact h
              refine key _ _ _ (.inl ⟨(paramsAt x).getD j .non, ?_⟩)
              unfold kCodes
              rw [if_pos hc]
              refine List.mem_map.mpr ⟨j, List.mem_range.mpr (by simpa using hj), rfl⟩
            | false =>
              unfold kCodes
              rw [hc]
              simp only [Bool.false_eq_true, if_false]
              show (dGet (putAll s.par []) _).isSome = false
              rw [putAll_nil, hs k [j] (Nat.le_refl _)]
              rfl
          · rw [hp, putAll_get_none]
            · have := hs k (j :: q) (Nat.le_refl _)
              simpa using this
            · intro e he z
              unfold kCodes at he
              split at he
              · obtain ⟨r, _, rfl⟩ := List.mem_map.mp he
                have := keyP_inj z
                simp only [List.append_assoc, List.append_cancel_left_eq] at this
                simp at this
                exact hq this.2
              · cases he
        rw [step]
        refine ih (k + 1) _ fun j q hj => ?_
        show dGet (putAll s.par _) _ = none
        rw [putAll_get_none]
        · exact hs j q (by omega)
        · intro e he z
          obtain ⟨r, _, hr⟩ := parU_kS (fun b p c => parU_kB f b p c) place code k x e he
          have := keyP_inj (hr.symm.trans z)
          simp only [List.append_assoc, List.append_cancel_left_eq, List.singleton_append, List.cons.injEq] at this
          omega
    unfold keepBlock kB
    rw [puts_app]
    have e0 : ({ s with bl := putD s.bl (keyP place) b } : KS) = s.puts ⟨[], [], [], [(keyP place, b)], [], []⟩ := by
      simp [KS.puts, putAll_cons, putAll_nil]
    rw [e0]
    refine outer _ 0 _ fun j q _ => ?_
    show dGet (putAll s.par []) _ = none
    rw [putAll_nil]
    have := h (j :: q) (by simp)
    simpa using this
end MPT
end

section
set_option maxHeartbeats 4000000
/-! Rows: the statements of a block in reading order, their blocks and codes. -/
namespace MPT
open PySem PySem.Spec PyProof.Rows L2 MP

def rJ {α : Type} (g : Nat → W → List α) : Nat → List W → List α
  | _, [] => []
  | k, x :: xs => g k x ++ rJ g (k + 1) xs
theorem rJ_map {α β : Type} (h : α → β) (g : Nat → W → List α) : ∀ (xs : List W) (k : Nat), (rJ g k xs).map h = rJ (fun k x => (g k x).map h) k xs
  | [], _ => rfl
  | x :: xs, k => by simp only [rJ, List.map_append, rJ_map h g xs]
theorem rJ_congr {α : Type} {g g' : Nat → W → List α} : ∀ {xs : List W} {k : Nat}, (∀ j x, g j x = g' j x) → rJ g k xs = rJ g' k xs
  | [], _, _ => rfl
  | x :: xs, k, h => by simp only [rJ, h, rJ_congr h]
theorem rJ_mem {α : Type} {g : Nat → W → List α} {e : α} : ∀ {xs : List W} {k : Nat}, e ∈ rJ g k xs ↔ ∃ j x, xs[j]? = some x ∧ e ∈ g (k + j) x
  | [], k => by simp [rJ]
  | x :: xs, k => by
    simp only [rJ, List.mem_append, rJ_mem (xs := xs)]
    constructor
    · rintro (h | ⟨j, y, h1, h2⟩)
      · exact ⟨0, x, rfl, h⟩
      · exact ⟨j + 1, y, by simpa using h1, by rw [show k + (j + 1) = k + 1 + j by omega]; exact h2⟩
    · rintro ⟨j, y, h1, h2⟩
      cases j with
      | zero => cases (show some x = some y from h1); exact .inl h2
      | succ j => exact .inr ⟨j, y, by simpa using h1, by rw [show k + 1 + j = k + (j + 1) by omega]; exact h2⟩
/-- the statements of a block with their paths, in reading order -/
def rowsB : Nat → W → List Nat → List (List Nat × W)
  | 0, _, _ => []
  | f + 1, b, place => rJ (fun k x => (place ++ [k], x) :: rJ (fun j c => rowsB f c (place ++ [k] ++ [j])) 0 (blocksOf x)) 0 ((lstW b).getD [])
def blksB : Nat → W → List Nat → List (List Nat × W)
  | 0, _, _ => []
  | f + 1, b, place => (place, b) :: rJ (fun k x => rJ (fun j c => blksB f c (place ++ [k] ++ [j])) 0 (blocksOf x)) 0 ((lstW b).getD [])
def codesL (p : List Nat) (w : W) : List (List Nat) := if hasCodes w then (List.range (blocksOf w).length).map fun k => p ++ [k] else []
def codsB : Nat → W → List Nat → List (List Nat)
  | 0, _, _ => []
  | f + 1, b, place => rJ (fun k x => codesL (place ++ [k]) x ++ rJ (fun j c => codsB f c (place ++ [k] ++ [j])) 0 (blocksOf x)) 0 ((lstW b).getD [])
theorem kJ_ord (g : Nat → W → KS) : ∀ (xs : List W) (k : Nat), (kJ g k xs).ord = rJ (fun k x => (g k x).ord) k xs
  | [], _ => rfl
  | x :: xs, k => by simp only [kJ, rJ, KS.app, kJ_ord g xs]
theorem kJ_st (g : Nat → W → KS) : ∀ (xs : List W) (k : Nat), (kJ g k xs).st = rJ (fun k x => (g k x).st) k xs
  | [], _ => rfl
  | x :: xs, k => by simp only [kJ, rJ, KS.app, kJ_st g xs]
theorem kJ_bl (g : Nat → W → KS) : ∀ (xs : List W) (k : Nat), (kJ g k xs).bl = rJ (fun k x => (g k x).bl) k xs
  | [], _ => rfl
  | x :: xs, k => by simp only [kJ, rJ, KS.app, kJ_bl g xs]
theorem kJ_par (g : Nat → W → KS) : ∀ (xs : List W) (k : Nat), (kJ g k xs).par = rJ (fun k x => (g k x).par) k xs
  | [], _ => rfl
  | x :: xs, k => by simp only [kJ, rJ, KS.app, kJ_par g xs]
theorem kCodes_par (p : List Nat) (w : W) : (kCodes p w).par.map (·.1) = (codesL p w).map keyP ∧ (kCodes p w).ord = [] ∧ (kCodes p w).st = [] ∧ (kCodes p w).bl = [] := by
  unfold kCodes codesL
  split <;> simp [KS.nl, List.map_map, Function.comp_def]
def keyR (e : List Nat × W) : List Key × W := (keyP e.1, e.2)
theorem kB_ord : ∀ (f : Nat) (b : W) (place code : List Nat), (kB f b place code).ord = (rowsB f b place).map fun e => pathW e.1
  | 0, _, _, _ => rfl
  | f + 1, b, place, code => by
    show [] ++ (kJ (kS (kB f) place code) 0 _).ord = _
    rw [List.nil_append, kJ_ord, rowsB, rJ_map]
    refine rJ_congr fun k x => ?_
    show [pathW (place ++ [k])] ++ ((kCodes _ x).ord ++ (kJ _ 0 _).ord) = _
    rw [(kCodes_par _ x).2.1, kJ_ord, List.map_cons, rJ_map]
    simp only [List.nil_append, List.singleton_append, List.cons.injEq, true_and]
    exact rJ_congr fun j c => kB_ord f c _ _
theorem kB_st : ∀ (f : Nat) (b : W) (place code : List Nat), (kB f b place code).st = (rowsB f b place).map keyR
  | 0, _, _, _ => rfl
  | f + 1, b, place, code => by
    show [] ++ (kJ (kS (kB f) place code) 0 _).st = _
    rw [List.nil_append, kJ_st, rowsB, rJ_map]
    refine rJ_congr fun k x => ?_
    show [(keyP (place ++ [k]), x)] ++ ((kCodes _ x).st ++ (kJ _ 0 _).st) = _
    rw [(kCodes_par _ x).2.2.1, kJ_st, List.map_cons, rJ_map]
    simp only [List.nil_append, List.singleton_append, List.cons.injEq]
    exact ⟨rfl, rJ_congr fun j c => kB_st f c _ _⟩
theorem kB_bl : ∀ (f : Nat) (b : W) (place code : List Nat), (kB f b place code).bl = (blksB f b place).map keyR
  | 0, _, _, _ => rfl
  | f + 1, b, place, code => by
    show [(keyP place, b)] ++ (kJ (kS (kB f) place code) 0 _).bl = _
    rw [kJ_bl, blksB, List.map_cons, rJ_map]
    simp only [List.singleton_append, List.cons.injEq]
    refine ⟨rfl, rJ_congr fun k x => ?_⟩
    show [] ++ ((kCodes _ x).bl ++ (kJ _ 0 _).bl) = _
    rw [(kCodes_par _ x).2.2.2, kJ_bl, rJ_map]
    simp only [List.nil_append]
    exact rJ_congr fun j c => kB_bl f c _ _
theorem kB_par : ∀ (f : Nat) (b : W) (place code : List Nat), (kB f b place code).par.map (·.1) = (codsB f b place).map keyP
  | 0, _, _, _ => rfl
  | f + 1, b, place, code => by
    show ([] ++ (kJ (kS (kB f) place code) 0 _).par).map _ = _
    rw [List.nil_append, kJ_par, codsB, rJ_map, rJ_map]
    refine rJ_congr fun k x => ?_
    show ([] ++ ((kCodes _ x).par ++ (kJ _ 0 _).par)).map _ = _
    rw [List.nil_append, List.map_append, (kCodes_par _ x).1, kJ_par, List.map_append, rJ_map, rJ_map]
    congr 1
    exact rJ_congr fun j c => kB_par f c _ _
/-- the codes, by the statements in reading order -/
theorem codsB_rows : ∀ (f : Nat) (b : W) (place : List Nat), codsB f b place = (rowsB f b place).flatMap fun e => codesL e.1 e.2
  | 0, _, _ => rfl
  | f + 1, b, place => by
    have fm : ∀ {α : Type} (g : Nat → W → List α) (h : α → List (List Nat)) (xs : List W) (k : Nat), (rJ g k xs).flatMap h = rJ (fun k x => (g k x).flatMap h) k xs := by
      intro α g h xs
      induction xs with
      | nil => intro k; rfl
      | cons x xs ih => intro k; simp only [rJ, List.flatMap_append, ih]
    rw [codsB, rowsB, fm]
    refine rJ_congr fun k x => ?_
    rw [List.flatMap_cons, fm]
    congr 1
    exact rJ_congr fun j c => codsB_rows f c _
/-! ### order -/
/-- p ahead of q, as tuples -/
def plt (p q : List Nat) : Prop := HT.lexLt (p.map fun (k : Nat) => (k : Int)) (q.map fun (k : Nat) => (k : Int)) = true
theorem plt_nil (x : Nat) (xs : List Nat) : plt [] (x :: xs) := rfl
theorem plt_cons {x y : Nat} {p q : List Nat} (h : x < y) : plt (x :: p) (y :: q) := by
  unfold plt
  rw [List.map_cons, List.map_cons, HT.lexLt_cons, if_neg (by omega)]
  simpa using h
theorem plt_app : ∀ (p : List Nat) {q r : List Nat}, plt q r → plt (p ++ q) (p ++ r)
  | [], _, _, h => h
  | x :: p, q, r, h => by
    have := plt_app p h
    unfold plt at this ⊢
    rw [List.cons_append, List.cons_append, List.map_cons, List.map_cons, HT.lexLt_cons, if_pos rfl]
    exact this
theorem plt_irr : ∀ p : List Nat, ¬ plt p p
  | [] => by simp [plt, HT.lexLt_nil_nil]
  | x :: p => fun h => by
    unfold plt at h
    rw [List.map_cons, HT.lexLt_cons, if_pos rfl] at h
    exact plt_irr p h
theorem pw_nodup {l : List (List Nat)} (h : l.Pairwise plt) : l.Nodup := by
  show List.Pairwise (· ≠ ·) l
  exact h.imp fun {a b} hab (e : a = b) => plt_irr b (by rw [e] at hab; exact hab)
theorem pw_rJ {place : List Nat} {g : Nat → W → List (List Nat)} : ∀ {xs : List W} {k : Nat}, (∀ j x, x ∈ xs → ∀ e ∈ g j x, ∃ q, e = place ++ j :: q) → (∀ j x, x ∈ xs → (g j x).Pairwise plt) → (rJ g k xs).Pairwise plt
  | [], _, _, _ => List.Pairwise.nil
  | x :: xs, k, h, hp => by
    rw [rJ, List.pairwise_append]
    refine ⟨hp k x (List.mem_cons_self ..), pw_rJ (fun j y hy => h j y (List.mem_cons_of_mem _ hy)) (fun j y hy => hp j y (List.mem_cons_of_mem _ hy)), fun a ha b hb => ?_⟩
    obtain ⟨q, rfl⟩ := h k x (List.mem_cons_self ..) a ha
    obtain ⟨j, y, hy, hb⟩ := rJ_mem.mp hb
    obtain ⟨r, rfl⟩ := h _ y (List.mem_cons_of_mem _ (List.mem_of_getElem? hy)) b hb
    exact plt_app place (plt_cons (by omega))
theorem rows_under : ∀ (f : Nat) (b : W) (place : List Nat), ∀ e ∈ rowsB f b place, ∃ k q, e.1 = place ++ k :: q
  | 0, _, _ => by simp [rowsB]
  | f + 1, b, place => by
    intro e he
    obtain ⟨k, x, _, he⟩ := rJ_mem.mp he
    rcases List.mem_cons.mp he with rfl | he
    · exact ⟨0 + k, [], rfl⟩
    · obtain ⟨j, c, _, he⟩ := rJ_mem.mp he
      obtain ⟨k2, q, h⟩ := rows_under f c _ e he
      exact ⟨0 + k, (0 + j) :: k2 :: q, by rw [h]; simp⟩
theorem rows_pw : ∀ (f : Nat) (b : W) (place : List Nat), ((rowsB f b place).map (·.1)).Pairwise plt
  | 0, _, _ => List.Pairwise.nil
  | f + 1, b, place => by
    rw [rowsB, rJ_map]
    refine pw_rJ (place := place) (fun k x _ e he => ?_) fun k x _ => ?_
    · rw [List.map_cons, rJ_map] at he
      rcases List.mem_cons.mp he with rfl | he
      · exact ⟨[], rfl⟩
      · obtain ⟨j, c, _, he⟩ := rJ_mem.mp he
        obtain ⟨a, ha, rfl⟩ := List.mem_map.mp he
        obtain ⟨k2, q, h⟩ := rows_under f c _ a ha
        exact ⟨(0 + j) :: k2 :: q, by rw [h]; simp⟩
    · rw [List.map_cons, rJ_map, List.pairwise_cons]
      refine ⟨fun e he => ?_, pw_rJ (place := place ++ [k]) (fun j c _ e he => ?_) fun j c _ => rows_pw f c _⟩
      · obtain ⟨j, c, _, he⟩ := rJ_mem.mp he
        obtain ⟨a, ha, rfl⟩ := List.mem_map.mp he
        obtain ⟨k2, q, h⟩ := rows_under f c _ a ha
        rw [h]
        have := plt_app (place ++ [k]) (plt_nil (0 + j) (k2 :: q))
        simpa using this
      · obtain ⟨a, ha, rfl⟩ := List.mem_map.mp he
        obtain ⟨k2, q, h⟩ := rows_under f c _ a ha
        exact ⟨k2 :: q, by rw [h]; simp⟩
theorem blks_under : ∀ (f : Nat) (b : W) (place : List Nat), ∀ e ∈ blksB f b place, ∃ q, e.1 = place ++ q
  | 0, _, _ => by simp [blksB]
  | f + 1, b, place => by
    intro e he
    rcases List.mem_cons.mp he with rfl | he
    · exact ⟨[], by simp⟩
    · obtain ⟨k, x, _, he⟩ := rJ_mem.mp he
      obtain ⟨j, c, _, he⟩ := rJ_mem.mp he
      obtain ⟨q, h⟩ := blks_under f c _ e he
      exact ⟨(0 + k) :: (0 + j) :: q, by rw [h]; simp⟩
theorem blks_pw : ∀ (f : Nat) (b : W) (place : List Nat), ((blksB f b place).map (·.1)).Pairwise plt
  | 0, _, _ => List.Pairwise.nil
  | f + 1, b, place => by
    rw [blksB, List.map_cons, rJ_map, List.pairwise_cons]
    refine ⟨fun e he => ?_, pw_rJ (place := place) (fun k x _ e he => ?_) fun k x _ => ?_⟩
    · obtain ⟨k, x, _, he⟩ := rJ_mem.mp he
      rw [rJ_map] at he
      obtain ⟨j, c, _, he⟩ := rJ_mem.mp he
      obtain ⟨a, ha, rfl⟩ := List.mem_map.mp he
      obtain ⟨q, h⟩ := blks_under f c _ a ha
      rw [h]
      have := plt_app place (plt_nil (0 + k) ((0 + j) :: q))
      simpa using this
    · rw [rJ_map] at he
      obtain ⟨j, c, _, he⟩ := rJ_mem.mp he
      obtain ⟨a, ha, rfl⟩ := List.mem_map.mp he
      obtain ⟨q, h⟩ := blks_under f c _ a ha
      exact ⟨(0 + j) :: q, by rw [h]; simp⟩
    · rw [rJ_map]
      refine pw_rJ (place := place ++ [k]) (fun j c _ e he => ?_) fun j c _ => blks_pw f c _
      obtain ⟨a, ha, rfl⟩ := List.mem_map.mp he
      obtain ⟨q, h⟩ := blks_under f c _ a ha
      exact ⟨q, by rw [h]; simp⟩
/-! ### codes are told once -/
theorem nd_rJ {place : List Nat} {g : Nat → W → List (List Nat)} : ∀ {xs : List W} {k : Nat}, (∀ j x, ∀ e ∈ g j x, ∃ q, e = place ++ j :: q) → (∀ j x, (g j x).Nodup) → (rJ g k xs).Nodup
  | [], _, _, _ => List.nodup_nil
  | x :: xs, k, h, hp => by
    rw [rJ, List.nodup_append]
    refine ⟨hp k x, nd_rJ h hp, fun a ha b hb e => ?_⟩
    obtain ⟨q, rfl⟩ := h k x a ha
    obtain ⟨j, y, hy, hb⟩ := rJ_mem.mp hb
    obtain ⟨r, h2⟩ := h _ y b hb
    rw [h2] at e
    simp at e
    omega
theorem cods_under : ∀ (f : Nat) (b : W) (place : List Nat), ∀ e ∈ codsB f b place, ∃ k j q, e = place ++ k :: j :: q
  | 0, _, _ => by simp [codsB]
  | f + 1, b, place => by
    intro e he
    obtain ⟨k, x, _, he⟩ := rJ_mem.mp he
    rcases List.mem_append.mp he with he | he
    · unfold codesL at he
      split at he
      · obtain ⟨j, _, rfl⟩ := List.mem_map.mp he
        exact ⟨0 + k, j, [], by simp⟩
      · cases he
    · obtain ⟨j, c, _, he⟩ := rJ_mem.mp he
      obtain ⟨k2, j2, q, rfl⟩ := cods_under f c _ e he
      exact ⟨0 + k, 0 + j, k2 :: j2 :: q, by simp⟩
theorem cods_nd : ∀ (f : Nat) (b : W) (place : List Nat), (codsB f b place).Nodup
  | 0, _, _ => List.nodup_nil
  | f + 1, b, place => by
    rw [codsB]
    refine nd_rJ (place := place) (fun k x e he => ?_) fun k x => ?_
    · rcases List.mem_append.mp he with he | he
      · unfold codesL at he
        split at he
        · obtain ⟨j, _, rfl⟩ := List.mem_map.mp he
          exact ⟨[j], by simp⟩
        · cases he
      · obtain ⟨j, c, _, he⟩ := rJ_mem.mp he
        obtain ⟨k2, j2, q, rfl⟩ := cods_under f c _ e he
        exact ⟨(0 + j) :: k2 :: j2 :: q, by simp⟩
    · rw [List.nodup_append]
      refine ⟨?_, nd_rJ (place := place ++ [k]) (fun j c e he => ?_) fun j c => cods_nd f c _, fun a ha b hb e => ?_⟩
      · unfold codesL
        split
        · show List.Pairwise (· ≠ ·) _
          exact List.pairwise_map.mpr (List.nodup_range.imp fun h e => h (by simpa using e))
        · exact List.nodup_nil
      · obtain ⟨k2, j2, q, rfl⟩ := cods_under f c _ e he
        exact ⟨k2 :: j2 :: q, by simp⟩
      · unfold codesL at ha
        split at ha
        · obtain ⟨i, _, rfl⟩ := List.mem_map.mp ha
          obtain ⟨j, c, _, hb⟩ := rJ_mem.mp hb
          obtain ⟨k2, j2, q, rfl⟩ := cods_under f c _ b hb
          simp at e
        · cases ha
/-! ### what a kept program is -/
theorem keyR_keys (l : List (List Nat × W)) : (l.map keyR).map (·.1) = (l.map (·.1)).map keyP := by simp [keyR, List.map_map, Function.comp_def]
theorem key_nd {l : List (List Nat)} (h : l.Nodup) : (l.map keyP).Nodup := by
  induction l with
  | nil => exact List.nodup_nil
  | cons p l ih =>
    rw [List.nodup_cons] at h
    rw [List.map_cons, List.nodup_cons]
    refine ⟨fun z => ?_, ih h.2⟩
    obtain ⟨q, hq, e⟩ := List.mem_map.mp z
    exact h.1 (keyP_inj e ▸ hq)
theorem kept_ord {xs : List W} {L : Nat} : (keepBlock 8 (.lst xs) [] [] (KS0 L)).ord = (rowsB 8 (.lst xs) []).map fun e => pathW e.1 := by
  rw [keep_kB 8 _ _ _ _ (fun q hq => by
    show dGet [(([] : List Key), _)] _ = none
    rw [dGet_cons, if_neg (by
      intro z
      exact hq (keyP_inj (p := []) (q := q) z).symm)]
    rfl)]
  show [] ++ (kB 8 (.lst xs) [] []).ord = _
  rw [List.nil_append, kB_ord]
theorem kept_eq {xs : List W} {L : Nat} : keepBlock 8 (.lst xs) [] [] (KS0 L) = (KS0 L).puts (kB 8 (.lst xs) [] []) :=
  keep_kB 8 _ _ _ _ (fun q hq => by
    show dGet [(([] : List Key), _)] _ = none
    rw [dGet_cons, if_neg (by
      intro z
      exact hq (keyP_inj (p := []) (q := q) z).symm)]
    rfl)
theorem kept_st {xs : List W} {L : Nat} : (keepBlock 8 (.lst xs) [] [] (KS0 L)).st = (rowsB 8 (.lst xs) []).map keyR := by
  rw [kept_eq]
  show putAll [] _ = _
  rw [kB_st, putAll_new (by rw [keyR_keys]; exact key_nd (pw_nodup (rows_pw 8 _ _))) (by simp)]
  rfl
theorem kept_bl {xs : List W} {L : Nat} : (keepBlock 8 (.lst xs) [] [] (KS0 L)).bl = (blksB 8 (.lst xs) []).map keyR := by
  rw [kept_eq]
  show putAll [] _ = _
  rw [kB_bl, putAll_new (by rw [keyR_keys]; exact key_nd (pw_nodup (blks_pw 8 _ _))) (by simp)]
  rfl
theorem kept_par {xs : List W} {L : Nat} : (keepBlock 8 (.lst xs) [] [] (KS0 L)).par = ([], .ref (L + 5)) :: (kB 8 (.lst xs) [] []).par := by
  rw [kept_eq]
  show putAll [([], _)] _ = _
  rw [putAll_new (by rw [kB_par]; exact key_nd (cods_nd 8 _ _))]
  · rfl
  · intro e he x hx
    rw [List.mem_singleton.mp hx]
    have : e.1 ∈ (kB 8 (.lst xs) [] []).par.map (·.1) := List.mem_map_of_mem he
    rw [kB_par] at this
    obtain ⟨c, hc, h⟩ := List.mem_map.mp this
    obtain ⟨k, j, q, rfl⟩ := cods_under 8 _ _ c hc
    rw [← h]
    simp [keyP]
end MPT
end

section
set_option maxHeartbeats 4000000
/-! Rows2: rows of good blocks: what stands where. -/
namespace MPT
open PySem PySem.Spec PyProof.Rows L2 MP

/-- a good statement's blocks, by fuel -/
theorem gS_blocks {f : Nat} {within : Bool} {kind : Str} {w b : W} (h : gS f within kind w = true) (hb : b ∈ blocksOf w) : ∃ within' kind', gB f within' kind' b = true := ⟨_, _, (gS_iff.mp h).2.2 b hb⟩
theorem rows_len : ∀ (f : Nat) (b : W) (place : List Nat), (rowsB f b place).length = cntB f b
  | 0, _, _ => rfl
  | f + 1, b, place => by
    have key : ∀ (xs : List W) (k : Nat), (rJ (fun k x => (place ++ [k], x) :: rJ (fun j c => rowsB f c (place ++ [k] ++ [j])) 0 (blocksOf x)) k xs).length = (xs.map fun w => 1 + ((blocksOf w).map (cntB f)).sum).sum := by
      intro xs
      induction xs with
      | nil => intro k; rfl
      | cons x xs ih =>
        intro k
        have key2 : ∀ (cs : List W) (j : Nat), (rJ (fun j c => rowsB f c (place ++ [k] ++ [j])) j cs).length = (cs.map (cntB f)).sum := by
          intro cs
          induction cs with
          | nil => intro j; rfl
          | cons c cs ih2 =>
            intro j
            rw [rJ, List.length_append, rows_len f c, ih2, List.map_cons, List.sum_cons]
        rw [rJ, List.length_append, ih, List.length_cons, key2, List.map_cons, List.sum_cons]
        omega
    exact key _ 0
/-- each row is a good statement -/
theorem rows_good : ∀ (f : Nat) {b : W} {place : List Nat} {within : Bool} {kind : Str}, gB f within kind b = true → ∀ e ∈ rowsB f b place, ∃ f' within' kind', f' < f ∧ gS f' within' kind' e.2 = true
  | 0, _, _, _, _, h => by simp [gB] at h
  | f + 1, b, place, within, kind, h => by
    obtain ⟨xs, e, _, hx⟩ := gB_iff.mp h
    intro r hr
    rw [rowsB, e] at hr
    obtain ⟨k, x, hk, hr⟩ := rJ_mem.mp hr
    have gx := hx x (List.mem_of_getElem? hk)
    rcases List.mem_cons.mp hr with rfl | hr
    · exact ⟨f, within, kind, Nat.lt_succ_self f, gx⟩
    · obtain ⟨j, c, hj, hr⟩ := rJ_mem.mp hr
      obtain ⟨w', k', gc⟩ := gS_blocks gx (List.mem_of_getElem? hj)
      obtain ⟨f', a, b', hf, hg⟩ := rows_good f gc r hr
      exact ⟨f', a, b', by omega, hg⟩
/-- a block's statements are rows -/
theorem rows_top {f : Nat} {b : W} {place : List Nat} {xs : List W} {k : Nat} {x : W} (e : lstW b = some xs) (h : xs[k]? = some x) : (place ++ [k], x) ∈ rowsB (f + 1) b place := by
  rw [rowsB, e]
  exact rJ_mem.mpr ⟨k, x, h, by rw [Nat.zero_add]; exact List.mem_cons_self ..⟩
/-- the statements of a row's blocks are rows; its blocks are told -/
theorem rows_in : ∀ (f : Nat) {b : W} {place : List Nat} {within : Bool} {kind : Str}, gB f within kind b = true → ∀ (p : List Nat) (w : W), (p, w) ∈ rowsB f b place → ∀ (j : Nat) (c : W), (blocksOf w)[j]? = some c →
    (p ++ [j], c) ∈ blksB f b place ∧ ∀ (ys : List W) (k : Nat) (x : W), lstW c = some ys → ys[k]? = some x → (p ++ [j] ++ [k], x) ∈ rowsB f b place
  | 0, _, _, _, _, h => by simp [gB] at h
  | f + 1, b, place, within, kind, h => by
    obtain ⟨xs, e, _, hx⟩ := gB_iff.mp h
    intro p w hr j c hj
    rw [rowsB, blksB, e]
    rw [rowsB, e] at hr
    obtain ⟨k0, x0, hk0, hr⟩ := rJ_mem.mp hr
    have gx := hx x0 (List.mem_of_getElem? hk0)
    rcases List.mem_cons.mp hr with hr | hr
    · cases hr
      obtain ⟨w', k', gc⟩ := gS_blocks gx (List.mem_of_getElem? hj)
      obtain ⟨f, rfl⟩ : ∃ f', f = f' + 1 := by
        cases f with
        | zero => simp [gB] at gc
        | succ f => exact ⟨f, rfl⟩
      refine ⟨List.mem_cons_of_mem _ (rJ_mem.mpr ⟨k0, w, hk0, rJ_mem.mpr ⟨j, c, hj, ?_⟩⟩), fun ys k x ec hx' => rJ_mem.mpr ⟨k0, w, hk0, List.mem_cons_of_mem _ (rJ_mem.mpr ⟨j, c, hj, ?_⟩)⟩⟩
      · rw [Nat.zero_add j, blksB]; exact List.mem_cons_self ..
      · rw [Nat.zero_add j]
        exact rows_top ec hx'
    · obtain ⟨j0, c0, hj0, hr⟩ := rJ_mem.mp hr
      obtain ⟨w', k', gc⟩ := gS_blocks gx (List.mem_of_getElem? hj0)
      obtain ⟨h1, h2⟩ := rows_in f gc _ _ hr _ _ hj
      exact ⟨List.mem_cons_of_mem _ (rJ_mem.mpr ⟨k0, x0, hk0, rJ_mem.mpr ⟨j0, c0, hj0, h1⟩⟩), fun ys k x ec hx' => rJ_mem.mpr ⟨k0, x0, hk0, List.mem_cons_of_mem _ (rJ_mem.mpr ⟨j0, c0, hj0, h2 _ _ _ ec hx'⟩)⟩⟩
/-- the paths of a block -/
def topsL (place : List Nat) (n : Nat) : List (List Nat) := (List.range n).map fun k => place ++ [k]
/-- the paths of the statements in a row's blocks -/
def kidsJ (p : List Nat) : Nat → List W → List (List Nat) := rJ fun j c => topsL (p ++ [j]) ((lstW c).getD []).length
def kidsL (e : List Nat × W) : List (List Nat) := kidsJ e.1 0 (blocksOf e.2)
theorem kids_len (p : List Nat) : ∀ (cs : List W) (j : Nat), (kidsJ p j cs).length = (cs.map fun c => ((lstW c).getD []).length).sum
  | [], _ => rfl
  | c :: cs, j => by
    show (topsL (p ++ [j]) _ ++ kidsJ p (j + 1) cs).length = _
    rw [List.length_append, kids_len p cs (j + 1), List.map_cons, List.sum_cons]
    simp [topsL]
/-- how many: the block's own and those within -/
theorem rows_kids : ∀ (f : Nat) {b : W} {place : List Nat} {within : Bool} {kind : Str}, gB f within kind b = true → (rowsB f b place).length = ((lstW b).getD []).length + ((rowsB f b place).flatMap kidsL).length
  | 0, _, _, _, _, h => by simp [gB] at h
  | f + 1, b, place, within, kind, h => by
    obtain ⟨xs, e, _, hx⟩ := gB_iff.mp h
    rw [rowsB, e]
    have key2 : ∀ (p : List Nat) (cs : List W) (j : Nat), (∀ c ∈ cs, ∃ w k, gB f w k c = true) → (rJ (fun j c => rowsB f c (p ++ [j])) j cs).length = (cs.map fun c => ((lstW c).getD []).length).sum + ((rJ (fun j c => rowsB f c (p ++ [j])) j cs).flatMap kidsL).length := by
      intro p cs
      induction cs with
      | nil => intro j _; rfl
      | cons c cs ih2 =>
        intro j hc
        obtain ⟨w, k, gc⟩ := hc c (List.mem_cons_self ..)
        have h1 := rows_kids f (place := p ++ [j]) gc
        have h2 := ih2 (j + 1) fun y hy => hc y (List.mem_cons_of_mem _ hy)
        rw [rJ, List.length_append, List.flatMap_append, List.length_append, List.map_cons, List.sum_cons]
        omega
    have key : ∀ (xs : List W) (k : Nat), (∀ x ∈ xs, gS f within kind x = true) → (rJ (fun k x => (place ++ [k], x) :: rJ (fun j c => rowsB f c (place ++ [k] ++ [j])) 0 (blocksOf x)) k xs).length = xs.length + ((rJ (fun k x => (place ++ [k], x) :: rJ (fun j c => rowsB f c (place ++ [k] ++ [j])) 0 (blocksOf x)) k xs).flatMap kidsL).length := by
      intro xs
      induction xs with
      | nil => intro k _; rfl
      | cons x xs ih =>
        intro k hx
        have h1 := key2 (place ++ [k]) (blocksOf x) 0 fun c hc => gS_blocks (hx x (List.mem_cons_self ..)) hc
        have h2 := ih (k + 1) fun y hy => hx y (List.mem_cons_of_mem _ hy)
        have h3 : (kidsL (place ++ [k], x)).length = ((blocksOf x).map fun c => ((lstW c).getD []).length).sum := kids_len _ _ _
        rw [rJ, List.length_append, List.flatMap_append, List.length_append, List.flatMap_cons, List.length_append, List.length_cons, List.length_cons]
        omega
    exact key xs 0 hx
/-- each row's path is one of the block's, or that of a statement in an earlier row's blocks -/
def Cov (T : List (List Nat)) (rs : List (List Nat × W)) : Prop := ∀ pre e post, rs = pre ++ e :: post → e.1 ∈ T ∨ e.1 ∈ pre.flatMap kidsL
theorem Cov.nil {T : List (List Nat)} : Cov T [] := fun pre e post h => by simp at h
theorem Cov.app {T : List (List Nat)} : ∀ {r1 r2 : List (List Nat × W)}, Cov T r1 → (∀ pre e post, r2 = pre ++ e :: post → e.1 ∈ T ∨ e.1 ∈ (r1 ++ pre).flatMap kidsL) → Cov T (r1 ++ r2) := fun {r1 r2} h1 h2 pre e post h => by
  rcases List.append_eq_append_iff.mp h with ⟨a, ha, hb⟩ | ⟨a, ha, hb⟩
  · rw [ha]
    cases a with
    | nil =>
      have := h2 [] e post (by simpa using hb)
      simpa using this
    | cons y ys =>
      have := h2 (y :: ys) e post hb
      exact this
  · cases a with
    | nil =>
      rw [List.append_nil] at ha
      have := h2 [] e post (by simpa using hb.symm)
      rw [ha, List.append_nil] at this
      exact this
    | cons y ys =>
      rw [List.cons_append] at hb
      cases hb
      exact h1 pre _ ys ha
theorem rows_cov : ∀ (f : Nat) (b : W) (place : List Nat), Cov (topsL place ((lstW b).getD []).length) (rowsB f b place)
  | 0, _, _ => Cov.nil
  | f + 1, b, place => by
    rw [rowsB]
    generalize hT : topsL place ((lstW b).getD []).length = T
    have inner : ∀ (p : List Nat) (cs : List W) (j : Nat), Cov (kidsJ p j cs) (rJ (fun j c => rowsB f c (p ++ [j])) j cs) := by
      intro p cs
      induction cs with
      | nil => intro j; exact Cov.nil
      | cons c cs ih =>
        intro j
        rw [rJ]
        refine Cov.app (fun pre e post h => ?_) fun pre e post h => ?_
        · rcases rows_cov f c (p ++ [j]) pre e post h with h1 | h1
          · exact .inl (List.mem_append_left _ h1)
          · exact .inr h1
        · rcases ih (j + 1) pre e post h with h1 | h1
          · exact .inl (List.mem_append_right _ h1)
          · exact .inr (by rw [List.flatMap_append]; exact List.mem_append_right _ h1)
    have outer : ∀ (xs : List W) (k : Nat), (∀ j, j < xs.length → place ++ [k + j] ∈ T) → Cov T (rJ (fun k x => (place ++ [k], x) :: rJ (fun j c => rowsB f c (place ++ [k] ++ [j])) 0 (blocksOf x)) k xs) := by
      intro xs
      induction xs with
      | nil => intro k _; exact Cov.nil
      | cons x xs ih =>
        intro k hk
        rw [rJ]
        refine Cov.app (fun pre e post h => ?_) fun pre e post h => ?_
        · cases pre with
          | nil =>
            rw [List.nil_append] at h
            cases h
            exact .inl (by have := hk 0 (by simp); simpa using this)
          | cons y pre =>
            rw [List.cons_append] at h
            injection h with h1 h2
            right
            rw [List.flatMap_cons]
            rcases inner (place ++ [k]) (blocksOf x) 0 pre e post h2 with h3 | h3
            · exact List.mem_append_left _ (by rw [← h1]; exact h3)
            · exact List.mem_append_right _ h3
        · rcases ih (k + 1) (fun j hj => by
            have := hk (j + 1) (by simpa using hj)
            rw [show k + (j + 1) = k + 1 + j by omega] at this
            exact this) pre e post h with h1 | h1
          · exact .inl h1
          · exact .inr (by rw [List.flatMap_append]; exact List.mem_append_right _ h1)
    refine outer _ 0 fun j hj => ?_
    rw [← hT]
    exact List.mem_map.mpr ⟨j, List.mem_range.mpr hj, by rw [Nat.zero_add]⟩
end MPT
end

section
set_option maxHeartbeats 4000000
/-! Api: a program in the memory, and what its methods tell. -/
namespace MPT
open PySem PySem.Spec PyProof.Rows L2 MP

/-- a program with this top block stands at i; its things from lp on -/
structure PrgAt (m : M) (i : Nat) (xs : List W) (lp : Nat) : Prop where
  ob : ∃ z, m[i]? = some (some (.ins k_Program (progFs (.lst xs) lp ++ [(a_written, .str z)])))
  ord : m[lp]? = some (some (.lst ((rowsB 8 (.lst xs) []).map fun e => pathW e.1)))
  st : m[lp + 1]? = some (some (.dT ((rowsB 8 (.lst xs) []).map keyR)))
  bl : m[lp + 3]? = some (some (.dT ((blksB 8 (.lst xs) []).map keyR)))
  par : ∃ ps, m[lp + 4]? = some (some (.dT (([], .ref (lp + 5)) :: ps))) ∧ ps.map (·.1) = (codsB 8 (.lst xs) []).map keyP
theorem PrgAt.keep {m m' : M} {i lp : Nat} {xs : List W} (P : PrgAt m i xs lp) (h : ∀ j x, j = i ∨ lp ≤ j → m[j]? = some x → m'[j]? = some x) : PrgAt m' i xs lp := by
  obtain ⟨⟨z, h1⟩, h2, h3, h4, ps, h5, h6⟩ := P
  exact ⟨⟨z, h _ _ (.inl rfl) h1⟩, h _ _ (.inr (by omega)) h2, h _ _ (.inr (by omega)) h3, h _ _ (.inr (by omega)) h4, ps, h _ _ (.inr (by omega)) h5, h6⟩
theorem PrgAt.app {m : M} {i lp : Nat} {xs : List W} (P : PrgAt m i xs lp) (x : M) : PrgAt (m ++ x) i xs lp :=
  P.keep fun j y _ h => by rw [List.getElem?_append_left (lt_of_get h)]; exact h
theorem make_eq {n : Nat} (rs : Sl → M → Res (List W)) (σ : Sl) (m : M) : eMake (CL n) k_Program rs σ m = (rs σ m).bind (makeSem k_Program (pd.tx.call n i_Program___init__)) := rfl
theorem makeSem_eq (k : Nat) (sem : List W → M → Res W) (ws : List W) (m : M) : makeSem k sem ws m = asNew m.length (sem (.ref m.length :: ws) (m ++ [some (.ins k [])])) := rfl
/-! ### depth -/
theorem dep_mem_le {xs : List W} {k : Nat} (h : ∀ x ∈ xs, dep x ≤ k) : deps xs ≤ k := by
  induction xs with
  | nil => simp [deps]
  | cons x xs ih =>
    have := h x (List.mem_cons_self ..)
    have := ih fun y hy => h y (List.mem_cons_of_mem _ hy)
    simp only [deps]
    omega
theorem dep_L {c : W} {xs : List W} (e : lstW c = some xs) {k : Nat} (h : ∀ x ∈ xs, dep x ≤ k) : dep c ≤ k + 1 := by
  have := dep_mem_le h
  cases c <;> simp [lstW] at e <;> subst e <;> simp only [dep] <;> omega
theorem dep_name {w : W} (h : isName w = true) : dep w = 0 := by cases w <;> simp [isName] at h <;> rfl
theorem dep_phrase {w : W} (h : isPhrase w = true) : dep w = 0 := by cases w <;> simp [isPhrase] at h <;> rfl
theorem dep_expr : ∀ (r : Nat) {w : W}, isExpr r w = true → dep w ≤ 3 * r
  | 0, w, h => by simp [isExpr] at h
  | r + 1, w, h => by
    have leaf : ∀ {word : Str} {p : W}, isLeaf word p = true → dep p = 0 := by
      intro word p h
      unfold isLeaf at h
      split at h
      · cases p <;> simp [isNum] at h <;> rfl
      · split at h
        · exact dep_phrase h
        · exact dep_name h
    cases eshape_of h with
    | con hm => simp only [dep, deps]; omega
    | leaf hm hl => have := leaf hl; simp only [dep, deps, this]; omega
    | un hm hl => have := dep_expr r hl; simp only [dep, deps]; omega
    | get ha hx => have := dep_expr r ha; have := dep_name hx; simp only [dep, deps]; omega
    | at_ ha hc => have := dep_expr r ha; have := dep_expr r hc; simp only [dep, deps]; omega
    | op ho ha hc => have := dep_expr r ha; have := dep_expr r hc; simp only [dep, deps]; omega
    | list ec hl hx =>
      have := dep_L ec fun x hx' => dep_expr r (hx x hx')
      simp only [dep, deps]; omega
    | table ec hl hx =>
      have := dep_L (k := 3 * r + 1) ec fun x hx' => by
        obtain ⟨a, b, rfl, ha, hb⟩ := hx x hx'
        have := dep_expr r ha
        have := dep_expr r hb
        simp only [dep, deps]; omega
      simp only [dep, deps]; omega
theorem simple_dep {word : Str} {rest : List W} (h : Simple word rest) : deps rest ≤ 15 := by
  have n : ∀ {w : W}, isName w = true → dep w ≤ 15 := fun h => by rw [dep_name h]; omega
  have p : ∀ {w : W}, isPhrase w = true → dep w ≤ 15 := fun h => by rw [dep_phrase h]; omega
  have e : ∀ {w : W}, isExpr 5 w = true → dep w ≤ 15 := fun h => dep_expr 5 h
  refine dep_mem_le fun x hx => ?_
  cases h with
  | let_ a b => simp only [List.mem_cons, List.not_mem_nil, or_false] at hx; rcases hx with rfl | rfl <;> first | exact n (by assumption) | exact e (by assumption) | exact p (by assumption)
  | set_ a b => simp only [List.mem_cons, List.not_mem_nil, or_false] at hx; rcases hx with rfl | rfl <;> first | exact n (by assumption) | exact e (by assumption) | exact p (by assumption)
  | put a b c => simp only [List.mem_cons, List.not_mem_nil, or_false] at hx; rcases hx with rfl | rfl | rfl <;> first | exact n (by assumption) | exact e (by assumption) | exact p (by assumption)
  | place a b c => simp only [List.mem_cons, List.not_mem_nil, or_false] at hx; rcases hx with rfl | rfl | rfl <;> first | exact n (by assumption) | exact e (by assumption) | exact p (by assumption)
  | add a b => simp only [List.mem_cons, List.not_mem_nil, or_false] at hx; rcases hx with rfl | rfl <;> first | exact n (by assumption) | exact e (by assumption) | exact p (by assumption)
  | cut a => simp only [List.mem_cons, List.not_mem_nil, or_false] at hx; subst hx; exact e a
  | say a => simp only [List.mem_cons, List.not_mem_nil, or_false] at hx; subst hx; exact e a
  | ask a b => simp only [List.mem_cons, List.not_mem_nil, or_false] at hx; rcases hx with rfl | rfl <;> first | exact n (by assumption) | exact e (by assumption) | exact p (by assumption)
  | leave => cases hx
  | give a => simp only [List.mem_cons, List.not_mem_nil, or_false] at hx; subst hx; exact e a
  | raise a => simp only [List.mem_cons, List.not_mem_nil, or_false] at hx; subst hx; exact e a
theorem par_dep {w : W} (h : arePar w = true) : dep w ≤ 1 := by
  unfold arePar at h
  split at h
  · rename_i xs e
    simp only [Bool.and_eq_true] at h
    exact dep_L (k := 0) e fun x hx => by rw [dep_name (MP.allB_iff.mp h.1.2 x hx)]; omega
  · cases h
theorem dep_good : ∀ (f : Nat) {b : W} {within : Bool} {kind : Str}, gB f within kind b = true → dep b ≤ 14 + 4 * f
  | 0, _, _, _, h => by simp [gB] at h
  | f + 1, b, within, kind, h => by
    obtain ⟨xs, e, _, hx⟩ := gB_iff.mp h
    refine Nat.le_trans (dep_L (k := 13 + 4 * (f + 1)) e fun x hx' => ?_) (by omega)
    obtain ⟨g1, _, g3⟩ := gS_iff.mp (hx x hx')
    have gb : ∀ b ∈ blocksOf x, dep b ≤ 14 + 4 * f := fun b hb => dep_good f (g3 b hb)
    cases shape_of g1 with
    | simple hs => have := simple_dep hs; simp only [dep, deps]; omega
    | @call how nm e as ys h1 h2 h3 h4 h5 h6 =>
      have a1 : dep nm = 0 := by
        split at h2
        · exact dep_name h2
        · cases nm <;> simp [MP.isNon] at h2; rfl
      have a2 := dep_expr 5 h3
      have a3 := dep_L (k := 15) h4 fun y hy => dep_expr 5 (MP.allB_iff.mp h6 y hy)
      simp only [dep, deps, a1]; omega
    | @if_ e a b h1 h2 h3 =>
      have a1 := dep_expr 5 h1
      have a2 := gb a (by simp [blocksOf])
      have a3 := gb b (by simp [blocksOf])
      simp only [dep, deps]; omega
    | @while_ e a h1 h2 =>
      have a1 := dep_expr 5 h1
      have a2 := gb a (by simp [blocksOf])
      simp only [dep, deps]; omega
    | @try_ a nm b c h1 =>
      have a1 : dep nm = 0 := by
        simp only [isTry, Bool.and_eq_true] at h1
        cases nm with
        | non => rfl
        | str _ => rfl
        | _ => simp [isName] at h1
      have a2 := gb a (by simp [blocksOf])
      have a3 := gb b (by simp [blocksOf])
      have a4 := gb c (by simp [blocksOf])
      simp only [dep, deps, a1]; omega
    | @def_ nm ps b h1 h2 h3 =>
      have a1 := dep_name h1
      have a2 := par_dep h2
      have a3 := gb b (by simp [blocksOf])
      simp only [dep, deps, a1]; omega
    | @class_ nm e ms ys h1 h2 h3 h4 =>
      have a1 := dep_name h1
      have a2 : dep e ≤ 15 := by
        simp only [Bool.or_eq_true] at h2
        rcases h2 with h2 | h2
        · cases e <;> simp [MP.isNon] at h2; simp [dep]
        · exact dep_expr 5 h2
      have h4' : (runF (fun names x => (methOk names x).map fun nm => names ++ [nm]) [] ys).1 = true := by
        unfold areMeth at h4
        rw [h3] at h4
        simp only [Bool.and_eq_true] at h4
        exact h4.2
      have a3 := dep_L (k := 15 + 4 * f) h3 fun y hy => by
        obtain ⟨nm, ps, b, rfl, q1, q2, q3⟩ := isMeth_each h4' y hy
        have := par_dep q2
        have := gb b (by
          simp only [blocksOf, h3]
          simp
          exact ⟨_, hy, rfl⟩)
        simp only [dep, deps]; omega
      simp only [dep, deps, a1]; omega
/-! ### Program(block) -/
theorem get_after {α : Type} (m J : List α) (p : α) (x : List α) (q : Nat) : (m ++ p :: (J ++ x))[m.length + (J.length + 1) + q]? = x[q]? := by
  rw [show m ++ p :: (J ++ x) = (m ++ p :: J) ++ x by simp, show m.length + (J.length + 1) + q = (m ++ p :: J).length + q by simp]
  rw [List.getElem?_append_right (by omega)]
  simp
theorem sp_make {L : Nat} {m : M} {xs : List W} {Q : W → M → Prop} (hL : 80 ≤ L) (hg : gB 8 false "top" (.lst xs) = true) (hp : Pu (.lst xs) = true) (hc : cntB 8 (.lst xs) ≤ 80) (hz : rsz (.lst xs) ≤ 16000000)
    (hQ : ∀ (m' : M) (lp : Nat), m.length < lp → (∀ (j : Nat) (x : Option O), m[j]? = some x → m'[j]? = some x) → PrgAt m' m.length xs lp → Q (.ref m.length) m') : Sp (makeSem k_Program (pd.tx.call L i_Program___init__) [.lst xs] m) Q := by
  obtain ⟨n, rfl⟩ : ∃ n, L = n + 80 := ⟨L - 80, by omega⟩
  obtain ⟨ys, e, hl, _⟩ := gB_iff.mp hg
  cases e
  have hck := chk_good 8 0 rfl (place := []) (before := 0) rfl hg (by omega)
  have hd := dep_good 8 hg
  obtain ⟨z, hz'⟩ := repr_lst (MP.Pu.rg hp) (by omega) hz
  obtain ⟨J, hJ⟩ := init_ok (n := n) (m := m) (MP.Pu.dat m hp) (MP.Pu.cpy hp) (by omega) hl hck (fun y => hz' _)
  have k1 := kept_ord (xs := xs) (L := m.length + (J.length + 1))
  have k2 := kept_st (xs := xs) (L := m.length + (J.length + 1))
  have k3 := kept_bl (xs := xs) (L := m.length + (J.length + 1))
  have k4 := kept_par (xs := xs) (L := m.length + (J.length + 1))
  rw [makeSem_eq, hJ]
  generalize keepBlock 8 (.lst xs) [] [] (KS0 (m.length + (J.length + 1))) = s at k1 k2 k3 k4 ⊢
  generalize hlp : m.length + (J.length + 1) = lp at k4 ⊢
  have get := fun (q : Nat) => get_after m J (some (O.ins k_Program (progFs (.lst xs) lp ++ [(a_written, .str z)]))) s.mem q
  rw [hlp] at get
  generalize hM : m ++ some (O.ins k_Program (progFs (.lst xs) lp ++ [(a_written, .str z)])) :: (J ++ s.mem) = M' at get ⊢
  have ext : ∀ (j : Nat) (x : Option O), m[j]? = some x → M'[j]? = some x := fun j x h => by rw [← hM, List.getElem?_append_left (lt_of_get h)]; exact h
  have own : M'[m.length]? = some (some (O.ins k_Program (progFs (.lst xs) lp ++ [(a_written, .str z)]))) := by
    rw [← hM, List.getElem?_append_right (Nat.le_refl _), Nat.sub_self]; rfl
  have g0 : M'[lp]? = some (some (.lst s.ord)) := (get 0).trans rfl
  have g1 : M'[lp + 1]? = some (some (.dT s.st)) := (get 1).trans rfl
  have g3 : M'[lp + 3]? = some (some (.dT s.bl)) := (get 3).trans rfl
  have g4 : M'[lp + 4]? = some (some (.dT s.par)) := (get 4).trans rfl
  rw [k1] at g0
  rw [k2] at g1
  rw [k3] at g3
  rw [k4] at g4
  exact Sp_ok.mpr (hQ M' lp (by omega) ext ⟨⟨z, own⟩, g0, g1, g3, ⟨_, g4, kB_par 8 _ _ _⟩⟩)
/-! ### fields -/
section
variable {n i lp : Nat} {m : M} {xs : List W} (P : PrgAt m i xs lp)
include P
theorem prg_top : fldSem pd.tx.g a_top (.ref i) m = .ok (.lst xs) m := by
  obtain ⟨z, h⟩ := P.ob
  simp only [fldSem, h]; rw [if_pos (by decide)]; rfl
theorem prg_order : fldSem pd.tx.g a_order (.ref i) m = .ok (.ref lp) m := by
  obtain ⟨z, h⟩ := P.ob
  simp only [fldSem, h]; rw [if_pos (by decide)]; rfl
theorem prg_statements : fldSem pd.tx.g a_statements (.ref i) m = .ok (.ref (lp + 1)) m := by
  obtain ⟨z, h⟩ := P.ob
  simp only [fldSem, h]; rw [if_pos (by decide)]; rfl
theorem prg_blocks : fldSem pd.tx.g a_blocks (.ref i) m = .ok (.ref (lp + 3)) m := by
  obtain ⟨z, h⟩ := P.ob
  simp only [fldSem, h]; rw [if_pos (by decide)]; rfl
theorem prg_parameters : fldSem pd.tx.g a_parameters (.ref i) m = .ok (.ref (lp + 4)) m := by
  obtain ⟨z, h⟩ := P.ob
  simp only [fldSem, h]; rw [if_pos (by decide)]; rfl
/-- a method of the program -/
theorem prg_meth {fi idx : Nat} (hm : pd.tx.mt fi k_Program = some idx) (hf : ∀ z, (progFs (.lst xs) lp ++ [(a_written, W.str z)]).lookup fi = none) (ro : Sl → M → Res W) (rs : Sl → M → Res (List W)) (σ : Sl) (m0 : M) (ho : ro σ m0 = .ok (.ref i) m) :
    eMeth (methTb (CL n) fi) fi ro rs σ m0 = (rs σ m).bind fun ws m2 => pd.tx.call (n + 1) idx (.ref i :: ws) m2 := by
  obtain ⟨z, h⟩ := P.ob
  have ht : methTb (CL n) fi k_Program = some (pd.tx.call (n + 1) idx) := by
    unfold methTb
    show (pd.tx.mt fi k_Program).map _ = _
    rw [hm]; rfl
  unfold eMeth
  rw [ho]
  simp only [Res.bind_ok, h, ht]
  rw [if_pos (by rw [hf z]; rfl)]
theorem len_eq : pd.tx.call (n + 2) i_Program___len__ [.ref i] m = .ok (.int (rowsB 8 (.lst xs) []).length) m := by
  rw [call_body (fi := m_Program___len__.fi) (us := [.ref i]) rfl rfl]
  show asRes (evSs (CL n) pd.tx.xn m_Program___len__.body [some (.ref i)] m) = _
  simp [m_Program___len__, cl_g, prg_order P]
  simp [lenSem, rdL, P.ord]
theorem codes_eq (hl : (codsB 8 (.lst xs) []).length ≤ 900) : pd.tx.call (n + 2) i_Program_codes [.ref i] m = .ok (.lst (([] :: codsB 8 (.lst xs) []).map pathW)) m := by
  rw [call_body (fi := m_Program_codes.fi) (us := [.ref i]) rfl rfl]
  show asRes (evSs (CL n) pd.tx.xn m_Program_codes.body [some (.ref i)] m) = _
  obtain ⟨ps, h5, h6⟩ := P.par
  have key : ∀ p : List Nat, (keyP p).map keyW = p.map fun (k : Nat) => W.int (k : Int) := fun p => by simp [keyP, List.map_map, Function.comp_def, keyW]
  have hps : ps.map (fun kv => W.tup (kv.1.map keyW)) = (codsB 8 (.lst xs) []).map pathW := by
    have : ps.map (fun kv => W.tup (kv.1.map keyW)) = (ps.map (·.1)).map fun k => W.tup (k.map keyW) := by simp [List.map_map, Function.comp_def]
    rw [this, h6, List.map_map]
    refine List.map_congr_left fun p _ => ?_
    show W.tup ((keyP p).map keyW) = pathW p
    rw [key]; rfl
  have hlen : ps.length ≤ 900 := by
    have := congrArg List.length hps
    simp at this
    omega
  simp [m_Program_codes, cl_g, prg_parameters P]
  simp only [listSem, rdL, rdT, h5, dictOf]
  rw [mkLst_frz _ _ (by simp; omega)]
  simp [hps, pathW]
end
theorem dat_path (p : List Nat) (m : M) : Dat m (pathW p) = true := by
  simp only [pathW, Dat]
  rw [Dats_iff]
  intro x hx
  obtain ⟨k, _, rfl⟩ := List.mem_map.mp hx
  rfl
theorem copy_eq {L : Nat} {m : M} {w : W} (hL : 62 ≤ L) (hd : dep w ≤ 60) (hp : Pu w = true) : pd.tx.call L i_deep_copy [w] m = .ok w m := by
  obtain ⟨n, rfl⟩ : ∃ n, L = n + 60 + 2 := ⟨L - 62, by omega⟩
  exact deep_copy_eq 60 hd (MP.Pu.cpy hp) (MP.Pu.dat m hp)
theorem in_dT {m : M} {j : Nat} {kvs : List (List Key × W)} (h : m[j]? = some (some (.dT kvs))) (neg : Bool) (p : List Nat) : inSem neg (pathW p) (.ref j) m = .ok (.bl ((dGet kvs (keyP p)).isSome != neg)) m := by
  simp only [inSem, rdL, rdT, h, pathW, MP.dictGet, keys_path]
  simp
theorem ix_dT {m : M} {j : Nat} {kvs : List (List Key × W)} (h : m[j]? = some (some (.dT kvs))) (p : List Nat) {w : W} (hg : dGet kvs (keyP p) = some w) : ixSem (.ref j) (pathW p) m = .ok w m := by
  simp only [ixSem, seqOf, rdL, rdT, h, pathW, MP.dictGet, keys_path, Option.map_some, hg]
theorem dGet_isSome {κ : Type} [DecidableEq κ] {d : List (κ × W)} {k : κ} (h : k ∈ d.map (·.1)) : (dGet d k).isSome = true := by
  induction d with
  | nil => cases h
  | cons e d ih =>
    rw [dGet_cons]
    split
    · rfl
    · rename_i hk
      rcases List.mem_cons.mp h with h | h
      · exact absurd h.symm hk
      · exact ih h
theorem ints_eq {m : M} {p : Cp} {σ : Sl} {j : Nat} (ht : p.tg = .nm j) (hc : p.cond = yes) (q : List Nat) (hp : ∀ k : Nat, p.elt ((wipeW σ p.vs).set j (some (.int (k : Int)))) m = .ok (.bl true) m) :
    cpItems p σ (q.map fun (k : Nat) => W.int (k : Int)) m = .ok (List.replicate q.length (.bl true)) m := by
  rw [cpItems_each (i := j) (g := fun _ => .bl true) ht hc (fun w hw => by
    obtain ⟨k, _, rfl⟩ := List.mem_map.mp hw
    exact hp k)]
  rw [List.map_const']; simp
theorem all_rep (k : Nat) (m : M) : allSem false (.lst (List.replicate k (W.bl true))) m = .ok (.bl true) m := by
  have := MP.all_map (fun _ : Unit => true) (List.replicate k ()) m
  rw [List.map_replicate] at this
  rw [this]
  simp
section
variable {n i lp : Nat} {m : M} {xs : List W} (P : PrgAt m i xs lp)
include P
theorem row_get {p : List Nat} {w : W} (h : (p, w) ∈ rowsB 8 (.lst xs) []) : dGet ((rowsB 8 (.lst xs) []).map keyR) (keyP p) = some w :=
  dGet_mem (by rw [keyR_keys]; exact key_nd (pw_nodup (rows_pw 8 _ _))) (List.mem_map.mpr ⟨_, h, rfl⟩)
theorem blk_get {p : List Nat} {w : W} (h : (p, w) ∈ blksB 8 (.lst xs) []) : dGet ((blksB 8 (.lst xs) []).map keyR) (keyP p) = some w :=
  dGet_mem (by rw [keyR_keys]; exact key_nd (pw_nodup (blks_pw 8 _ _))) (List.mem_map.mpr ⟨_, h, rfl⟩)
theorem block_eq (hd : dep (.lst xs) ≤ 60) (hp : Pu (.lst xs) = true) : pd.tx.call (n + 63) i_Program_block [.ref i] m = .ok (.lst xs) m := by
  rw [show n + 63 = n + 61 + 2 by omega, call_body (fi := m_Program_block.fi) (us := [.ref i]) rfl rfl]
  show asRes (evSs (CL (n + 61)) pd.tx.xn m_Program_block.body [some (.ref i)] m) = _
  simp [m_Program_block, cl_g, cl_c0, prg_top P, copy_eq (L := n + 61 + 1) (by omega) hd hp]
theorem is_path_eq {p : List Nat} (hl : p.length ≤ 1000) : pd.tx.call (n + 4) i_Program_is_path [.ref i, pathW p] m = .ok (.bl (dGet ((rowsB 8 (.lst xs) []).map keyR) (keyP p)).isSome) m := by
  rw [show n + 4 = n + 2 + 2 by omega, call_body (fi := m_Program_is_path.fi) (us := [.ref i, pathW p]) rfl rfl]
  show asRes (evSs (CL (n + 2)) pd.tx.xn m_Program_is_path.body [some (.ref i), some (pathW p), none] m) = _
  simp [m_Program_is_path, cl_g, cl_c0, isa_tup isaB (dat_path p m), show isTupW (pathW p) = true from rfl, prg_statements P]
  rw [show srcOf (pathW p) m = .ok (.items (p.map fun (k : Nat) => W.int (k : Int))) m from rfl]
  simp
  rw [ints_eq rfl rfl p (fun k => by
    have := is_integer_eq (n := n + 1) (m := m) (w := .int (k : Int)) rfl
    simp [wipeW]
    exact this)]
  simp [mkLst_frz (List.replicate p.length (W.bl true)) m (by simpa using hl), all_rep, prg_statements P, in_dT P.st]
theorem checked_eq {p : List Nat} {w : W} (hl : p.length ≤ 1000) (h : (p, w) ∈ rowsB 8 (.lst xs) []) : pd.tx.call (n + 6) i_Program_checked [.ref i, pathW p] m = .ok (pathW p) m := by
  rw [show n + 6 = n + 4 + 2 by omega, call_body (fi := m_Program_checked.fi) (us := [.ref i, pathW p]) rfl rfl]
  show asRes (evSs (CL (n + 4)) pd.tx.xn m_Program_checked.body [some (.ref i), some (pathW p)] m) = _
  have hp := is_path_eq (n := n + 1) P (p := p) hl
  rw [row_get P h] at hp
  simp [m_Program_checked]
  rw [prg_meth P (n := n + 4) (idx := i_Program_is_path) rfl (fun z => rfl) _ _ _ _ (by simp)]
  simp [hp]
theorem item_eq {p : List Nat} {w : W} (hl : p.length ≤ 1000) (h : (p, w) ∈ rowsB 8 (.lst xs) []) (hd : dep w ≤ 60) (hw : Pu w = true) : pd.tx.call (n + 63) i_Program___getitem__ [.ref i, pathW p] m = .ok w m := by
  rw [show n + 63 = n + 61 + 2 by omega, call_body (fi := m_Program___getitem__.fi) (us := [.ref i, pathW p]) rfl rfl]
  show asRes (evSs (CL (n + 61)) pd.tx.xn m_Program___getitem__.body [some (.ref i), some (pathW p)] m) = _
  have hc := checked_eq (n := n + 56) P hl h
  simp [m_Program___getitem__, cl_g, cl_c0, prg_statements P]
  rw [prg_meth P (n := n + 61) (idx := i_Program_checked) rfl (fun z => rfl) _ _ _ _ (by simp)]
  simp [hc, prg_statements P, ix_dT P.st p (row_get P h), copy_eq (L := n + 61 + 1) (by omega) hd hw]
end
end MPT
end

section
set_option maxHeartbeats 4000000
/-! Rows3: the rows' statements are plain data. -/
namespace MPT
open PySem PySem.Spec PyProof.Rows L2 MP

theorem pu_lst {xs : List W} (h : Pu (.lst xs) = true) : ∀ x ∈ xs, Pu x = true := by
  simp only [Pu, Bool.and_eq_true] at h
  exact Pus_iff.mp h.2
theorem pu_tup' {xs : List W} (h : Pu (.tup xs) = true) : ∀ x ∈ xs, Pu x = true := by
  simp only [Pu, Bool.and_eq_true] at h
  exact Pus_iff.mp h.2
theorem pu_L {w : W} {xs : List W} (e : lstW w = some xs) (h : Pu w = true) : w = .lst xs ∧ ∀ x ∈ xs, Pu x = true := by
  cases w <;> simp [lstW] at e
  · subst e; exact ⟨rfl, pu_lst h⟩
  · simp [Pu] at h
theorem blocks_pu {w : W} (hs : isStmt w = true) (h : Pu w = true) : ∀ b ∈ blocksOf w, Pu b = true := by
  cases shape_of hs with
  | @simple word rest h1 =>
    intro b hb
    have : blocksOf (.tup (.str word :: rest)) = [] := by cases h1 <;> simp [blocksOf]
    rw [this] at hb; cases hb
  | call h1 h2 h3 h4 h5 h6 => intro b hb; simp [blocksOf] at hb
  | @if_ e a b h1 h2 h3 =>
    have := pu_tup' h
    intro y hy
    simp [blocksOf] at hy
    rcases hy with rfl | rfl <;> exact this _ (by simp)
  | @while_ e a h1 h2 =>
    have := pu_tup' h
    intro y hy
    simp [blocksOf] at hy
    subst hy; exact this _ (by simp)
  | @try_ a nm b c h1 =>
    have := pu_tup' h
    intro y hy
    simp [blocksOf] at hy
    rcases hy with rfl | rfl | rfl <;> exact this _ (by simp)
  | @def_ nm ps b h1 h2 h3 =>
    have := pu_tup' h
    intro y hy
    simp [blocksOf] at hy
    subst hy; exact this _ (by simp)
  | @class_ nm e ms ys h1 h2 h3 h4 =>
    have hm := pu_tup' h ms (by simp)
    have h4' : (runF (fun names x => (methOk names x).map fun nm => names ++ [nm]) [] ys).1 = true := by
      unfold areMeth at h4
      rw [h3] at h4
      simp only [Bool.and_eq_true] at h4
      exact h4.2
    intro y hy
    simp only [blocksOf, h3] at hy
    simp at hy
    obtain ⟨z, hz, rfl⟩ := hy
    obtain ⟨nm', ps, b, rfl, _⟩ := isMeth_each h4' z hz
    exact pu_tup' ((pu_L h3 hm).2 _ hz) _ (by simp)
theorem rows_pu : ∀ (f : Nat) {b : W} {place : List Nat} {within : Bool} {kind : Str}, gB f within kind b = true → Pu b = true → ∀ e ∈ rowsB f b place, Pu e.2 = true
  | 0, _, _, _, _, h, _ => by simp [gB] at h
  | f + 1, b, place, within, kind, h, hp => by
    obtain ⟨xs, e, _, hx⟩ := gB_iff.mp h
    intro r hr
    rw [rowsB, e] at hr
    obtain ⟨k, x, hk, hr⟩ := rJ_mem.mp hr
    have hxm := List.mem_of_getElem? hk
    have px := (pu_L e hp).2 x hxm
    rcases List.mem_cons.mp hr with rfl | hr
    · exact px
    · obtain ⟨j, c, hj, hr⟩ := rJ_mem.mp hr
      have hc := List.mem_of_getElem? hj
      obtain ⟨w', k', gc⟩ := gS_blocks (hx x hxm) hc
      exact rows_pu f gc (blocks_pu (gS_iff.mp (hx x hxm)).1 px c hc) r hr
theorem stmt_dep {f : Nat} {within : Bool} {kind : Str} {w : W} (h : gS f within kind w = true) : dep w ≤ 17 + 4 * f := by
  have g : gB (f + 1) within kind (.lst [w]) = true := gB_iff.mpr ⟨[w], rfl, by simp, by simpa using h⟩
  have := dep_good (f + 1) g
  simp only [dep, deps] at this
  omega
/-- what is known of a row -/
structure RowOk (w : W) : Prop where
  st : isStmt w = true
  pu : Pu w = true
  dp : dep w ≤ 60
theorem row_ok {b : W} {place : List Nat} {within : Bool} {kind : Str} (h : gB 8 within kind b = true) (hp : Pu b = true) : ∀ e ∈ rowsB 8 b place, RowOk e.2 := fun e he => by
  obtain ⟨f', a, c, hf, hg⟩ := rows_good 8 h e he
  exact ⟨(gS_iff.mp hg).1, rows_pu 8 h hp e he, by have := stmt_dep hg; omega⟩
/-- a row of the block itself -/
theorem rows_one {f : Nat} {b : W} {place : List Nat} {p : List Nat} {w : W} (h : (p, w) ∈ rowsB f b place) (hl : p.length = place.length + 1) : ∃ k, p = place ++ [k] ∧ ((lstW b).getD [])[k]? = some w := by
  cases f with
  | zero => cases h
  | succ f =>
    rw [rowsB] at h
    obtain ⟨k, x, hk, h⟩ := rJ_mem.mp h
    rw [Nat.zero_add] at h
    rcases List.mem_cons.mp h with h | h
    · cases h; exact ⟨k, rfl, hk⟩
    · obtain ⟨j, c, hj, h⟩ := rJ_mem.mp h
      obtain ⟨k2, q, e⟩ := rows_under f c _ _ h
      have e : p = place ++ [k] ++ [0 + j] ++ k2 :: q := e
      rw [e] at hl
      simp at hl
theorem blks_pu {b : W} {within : Bool} {kind : Str} (h : gB 8 within kind b = true) (hp : Pu b = true) {p : List Nat} {w : W} (hr : (p, w) ∈ rowsB 8 b []) {j : Nat} {c : W} (hj : (blocksOf w)[j]? = some c) : Pu c = true ∧ dep c ≤ 60 ∧ ∃ ys, lstW c = some ys ∧ ys.length ≤ 12 := by
  obtain ⟨f', a, k, hf, hg⟩ := rows_good 8 h _ hr
  have hc := List.mem_of_getElem? hj
  obtain ⟨w', k', gc⟩ := gS_blocks hg hc
  have := dep_good f' gc
  refine ⟨blocks_pu (gS_iff.mp hg).1 (rows_pu 8 h hp _ hr) c hc, by omega, ?_⟩
  cases f' with
  | zero => simp [gB] at gc
  | succ f' =>
    obtain ⟨ys, e, hl, _⟩ := gB_iff.mp gc
    exact ⟨ys, e, hl⟩
theorem blks_top (f : Nat) (b : W) (place : List Nat) : (place, b) ∈ blksB (f + 1) b place := by rw [blksB]; exact List.mem_cons_self ..
/-- paths are short -/
theorem rows_plen : ∀ (f : Nat) (b : W) (place : List Nat), ∀ e ∈ rowsB f b place, e.1.length ≤ place.length + 2 * f
  | 0, _, _ => by simp [rowsB]
  | f + 1, b, place => by
    intro e he
    rw [rowsB] at he
    obtain ⟨k, x, hk, he⟩ := rJ_mem.mp he
    rcases List.mem_cons.mp he with rfl | he
    · simp; omega
    · obtain ⟨j, c, hj, he⟩ := rJ_mem.mp he
      have := rows_plen f c _ e he
      simp at this
      omega
theorem codes_len {b : W} {within : Bool} {kind : Str} (h : gB 8 within kind b = true) : (codsB 8 b []).length ≤ 4 * (rowsB 8 b []).length := by
  rw [codsB_rows]
  have : ∀ rs : List (List Nat × W), (∀ e ∈ rs, isStmt e.2 = true) → (rs.flatMap fun e => codesL e.1 e.2).length ≤ 4 * rs.length := by
    intro rs
    induction rs with
    | nil => intro _; simp
    | cons r rs ih =>
      intro hr
      have h1 := ih fun e he => hr e (List.mem_cons_of_mem _ he)
      have h2 := blocks_len (hr r (List.mem_cons_self ..))
      have h3 : (codesL r.1 r.2).length ≤ 4 := by
        unfold codesL
        split
        · simpa using h2
        · simp
      rw [List.flatMap_cons, List.length_append, List.length_cons]
      omega
  exact this _ fun e he => by
    obtain ⟨f', a, c, hf, hg⟩ := rows_good 8 h e he
    exact (gS_iff.mp hg).1
section
variable {n i lp : Nat} {m : M} {xs : List W} (P : PrgAt m i xs lp)
include P
/-- a special method of the program -/
theorem prg_own {fi idx : Nat} (hm : pd.tx.mt fi k_Program = some idx) (more : List W) : ownSem (ownTb (CL n) fi) (.ref i) more m = pd.tx.call n idx (.ref i :: more) m := by
  obtain ⟨z, h⟩ := P.ob
  have ht : ownTb (CL n) fi k_Program = some (pd.tx.call n idx) := by
    unfold ownTb
    show (pd.tx.mt fi k_Program).map _ = _
    rw [hm]; rfl
  simp only [ownSem, h, ht]
end
theorem asLen_nat (k : Nat) (m : M) (h : k ≤ 100000) : asLen (.int (k : Int)) m = .ok (.int (k : Int)) m := by
  simp only [asLen]
  rw [if_pos ⟨Int.natCast_nonneg k, Int.lt_of_le_of_lt (show (k : Int) ≤ 100000 by omega) (by decide)⟩]
theorem PrgAt.low {m m' : M} {i lp : Nat} {xs : List W} (P : PrgAt m i xs lp) (h : ∀ j, j < m.length → m'[j]? = m[j]?) : PrgAt m' i xs lp :=
  P.keep fun j x _ e => by rw [h j (lt_of_get e)]; exact e
theorem sp_new0 {m : M} {xs : List W} {Q : W → M → Prop} (hl : xs.length ≤ 1000) (hQ : ∀ (j : Nat) (m' : M), m.length ≤ j → m'[j]? = some (some (.lst xs)) → (∀ k, k < m.length → m'[k]? = m[k]?) → Q (.ref j) m') : Sp (mkLst false xs m) Q :=
  ⟨_, _, mkLst_new xs m hl, hQ m.length _ (Nat.le_refl _) (get_app m [some (.lst xs)] 0) fun k e => List.getElem?_append_left e⟩
/-- a path among paths -/
theorem dat_pathW (m : M) (n : Nat) (p : List Nat) : dat m (n + 1) (pathW p) = some (.tuple (p.map fun (k : Nat) => PyData.int (k : Int))) := by
  have : ∀ q : List Nat, (q.map fun (k : Nat) => W.int (k : Int)).mapM (dat m n) = some (q.map fun (k : Nat) => PyData.int (k : Int)) := by
    intro q
    induction q with
    | nil => rfl
    | cons k q ih => rw [List.map_cons, List.mapM_cons, ih]; simp
  simp only [pathW, dat, this, Option.map_some]
theorem eqvAll_ints : ∀ p q : List Nat, PyData.eqvAll (p.map fun (k : Nat) => PyData.int (k : Int)) (q.map fun (k : Nat) => PyData.int (k : Int)) = decide (p = q)
  | [], [] => rfl
  | [], _ :: _ => by simp [PyData.eqvAll]
  | _ :: _, [] => by simp [PyData.eqvAll]
  | a :: p, b :: q => by
    simp only [List.map_cons, PyData.eqvAll, eqvAll_ints p q, PyData.eqv]
    by_cases h : a = b <;> by_cases h2 : p = q <;> simp [h, h2] <;> omega
theorem in_paths (neg : Bool) (p : List Nat) (ds : List (List Nat)) (m : M) : inSem neg (pathW p) (.lst (ds.map pathW)) m = .ok (.bl (decide (p ∈ ds) != neg)) m := by
  have e : (ds.map pathW).mapM (dat m 60) = some (ds.map fun q => PyData.tuple (q.map fun (k : Nat) => PyData.int (k : Int))) := by
    induction ds with
    | nil => rfl
    | cons q ds ih => rw [List.map_cons, List.mapM_cons, ih, dat_pathW]; rfl
  have e2 : ((ds.map fun q => PyData.tuple (q.map fun (k : Nat) => PyData.int (k : Int))).any fun z => PyData.eqv z (.tuple (p.map fun (k : Nat) => PyData.int (k : Int)))) = decide (p ∈ ds) := by
    clear e
    induction ds with
    | nil => rfl
    | cons q ds ih =>
      rw [List.map_cons, List.any_cons, ih]
      simp only [PyData.eqv, eqvAll_ints]
      by_cases h : q = p
      · subst h; simp
      · have h' : ¬ p = q := fun z => h z.symm
        simp [h, h']
  unfold inSem
  simp only [rdL, dat_pathW, e, e2]
theorem isa_ref_lst {m : M} {j : Nat} {xs : List W} (h : m[j]? = some (some (.lst xs))) : isaSem pd.tx.g .lst (.ref j) m = .ok (.bl true) m ∧ isaSem pd.tx.g .tup (.ref j) m = .ok (.bl false) m := by
  have ht : tyW m (.ref j) = some .lst := by simp only [tyW, h]
  obtain ⟨_, _, _, _, a5, _, _⟩ := isaB.lst
  obtain ⟨_, _, _, _, b5, _, _⟩ := isaB.tup
  constructor
  · simp only [isaSem, ht, a5]
  · simp only [isaSem, ht, b5]
end MPT
end

section
set_option maxHeartbeats 4000000
/-! Draw: the law's source of draws. -/
namespace MPT
open PySem PySem.Spec PyProof.Rows L2 MP

def srcL (xs : List Int) (p q c d u v : Int) : List W := [.lst (xs.map W.int), .int p, .int q, .int c, .int d, .int u, .int v]
def SrcOk (p q c : Int) : Prop := 0 ≤ p ∧ 0 ≤ q ∧ 0 ≤ c ∧ c < 2147483648
/-- at i: a source -/
def SrcAt (m : M) (i : Nat) (u v : Int) : Prop := ∃ xs p q c d, SrcOk p q c ∧ m[i]? = some (some (.lst (srcL xs p q c d u v)))
theorem ix_ref {m : M} {i : Nat} {xs : List W} (h : m[i]? = some (some (.lst xs))) (k : Int) : ixSem (.ref i) (.int k) m = itemK (atI xs k) m := by
  unfold ixSem itemK seqOf; simp only [rdL, h]; try rfl
theorem itemPut_ref {m : M} {i : Nat} {xs : List W} (h : m[i]? = some (some (.lst xs))) (k : Nat) (hk : k < xs.length) (w : W) : itemPut (.ref i) (.int (k : Int)) w m = .ok () (m.set i (some (.lst (xs.set k w)))) := by
  unfold itemPut
  simp only [h]
  unfold ixN
  rw [if_pos (by omega), if_pos (by omega)]
  simp [setO]
theorem mul_small (frz : Bool) (i j : Int) (m : M) (h : (-(2 ^ 64) < i ∧ i < 2 ^ 64) ∨ (-(2 ^ 64) < j ∧ j < 2 ^ 64)) : binSem frz .mul (.int i) (.int j) m = .ok (.int (i * j)) m := by
  simp only [binSem, mulSem]; rw [if_pos h]
theorem mul_r (frz : Bool) (i j : Int) (m : M) (h : 0 ≤ j ∧ j ≤ 10000000000) : binSem frz .mul (.int i) (.int j) m = .ok (.int (i * j)) m :=
  mul_small frz i j m (.inr ⟨Int.lt_of_lt_of_le (by decide) h.1, Int.lt_of_le_of_lt h.2 (by decide)⟩)
theorem mul_l (frz : Bool) (i j : Int) (m : M) (h : 0 ≤ i ∧ i ≤ 10000000000) : binSem frz .mul (.int i) (.int j) m = .ok (.int (i * j)) m :=
  mul_small frz i j m (.inl ⟨Int.lt_of_lt_of_le (by decide) h.1, Int.lt_of_le_of_lt h.2 (by decide)⟩)
theorem pow_18 (frz : Bool) (m : M) : binSem frz .pow (.int 10) (.int 18) m = .ok (.int 1000000000000000000) m := by
  simp only [binSem]; rw [if_pos (by decide)]; rfl
theorem emod_rng (a : Int) {b : Int} (h : 0 < b) : 0 ≤ a % b ∧ a % b < b := ⟨Int.emod_nonneg a (by omega), Int.emod_lt_of_pos a h⟩
/-- the trees of a draw -/
def drawTail : Ss := match f__law_draw.body with
  | .cons _ (.cons _ r) => r
  | _ => .nil
def drawDig : Ss := match f__law_draw.body with
  | .cons _ r => r
  | _ => .nil
section
variable {n i : Nat} {m : M} {k : Int} {xs : List Int} {p q c d u v : Int}
/-- a number is worked out -/
theorem draw_num (o : Option W) (ok : SrcOk p q c) (h : m[i]? = some (some (.lst (srcL xs p q c d u v)))) (hk : 0 < k) (hk2 : k < 1073741824) :
    ∃ e d', asRes (evSs (CL n) pd.tx.xn drawTail [some (.ref i), some (.int k), o, none, none] m) = .ok (.int e) (m.set i (some (.lst (srcL xs p q c d' u v)))) ∧ 0 ≤ e ∧ e < k := by
  obtain ⟨h1, h2, h3, h4⟩ := ok
  have hi : i < m.length := lt_of_get h
  have hp4 := itemPut_ref h 4 (by simp [srcL]) (.int (d + 1))
  have hm2 : (m.set i (some (.lst (srcL xs p q c (d + 1) u v))))[i]? = some (some (.lst (srcL xs p q c (d + 1) u v))) := List.getElem?_set_self hi
  have e1 := emod_rng ((c + 7919 * (d + 1) + 1) * 48271) (b := 2147483647) (by decide)
  generalize hN1 : (c + 7919 * (d + 1) + 1) * 48271 % 2147483647 = N1 at e1
  have e2 := emod_rng (N1 * (N1 / 1009 + 69621)) (b := 2147483647) (by decide)
  generalize hN2 : N1 * (N1 / 1009 + 69621) % 2147483647 = N2 at e2
  have e3 := emod_rng (N2 * (N2 / 2003 + 40692)) (b := 2147483399) (by decide)
  generalize hN3 : N2 * (N2 / 2003 + 40692) % 2147483399 = N3 at e3
  have e4 := emod_rng (N3 / 16) hk
  have M1 : ∀ m', binSem true .mul (.int N1) (.int (N1 / 1009 + 69621)) m' = .ok (.int (N1 * (N1 / 1009 + 69621))) m' := fun m' => mul_r _ _ _ _ (by omega)
  have M2 : ∀ m', binSem true .mul (.int N2) (.int (N2 / 2003 + 40692)) m' = .ok (.int (N2 * (N2 / 2003 + 40692))) m' := fun m' => mul_r _ _ _ _ (by omega)
  refine ⟨N3 / 16 % k, d + 1, ?_, e4.1, e4.2⟩
  simp only [drawTail, f__law_draw]
  have hs4 : (srcL xs p q c d u v)[4]? = some (.int d) := rfl
  have hp4' : itemPut (.ref i) (.int 4) (.int (d + 1)) m = .ok () (m.set i (some (.lst (srcL xs p q c (d + 1) u v)))) := hp4
  have hs3 : (srcL xs p q c (d + 1) u v)[3]? = some (.int c) := rfl
  have hs4' : (srcL xs p q c (d + 1) u v)[4]? = some (.int (d + 1)) := rfl
  simp [ix_ref h, hs4, hp4', ix_ref hm2, hs3, hs4', mul_l, mul_r, MP.mod_int, MP.fdiv_int, hN1, M1, hN2, M2, hN3, hk]
theorem draw_dig (o : Option W) (ok : SrcOk p q c) (h : m[i]? = some (some (.lst (srcL xs p q c d u v)))) (hk : 0 < k) (hk2 : k < 1073741824) :
    ∃ e q' d', asRes (evSs (CL n) pd.tx.xn drawDig [some (.ref i), some (.int k), o, none, none] m) = .ok (.int e) (m.set i (some (.lst (srcL xs p q' c d' u v)))) ∧ 0 ≤ e ∧ e < k ∧ 0 ≤ q' := by
  obtain ⟨h1, h2, h3, h4⟩ := ok
  have hi : i < m.length := lt_of_get h
  have hs2 : (srcL xs p q c d u v)[2]? = some (.int q) := rfl
  by_cases hq : 0 < q
  · have e4 := emod_rng q hk
    refine ⟨q % k, q / k, d, ?_, e4.1, e4.2, Int.ediv_nonneg h2 (by omega)⟩
    have hp2 : itemPut (.ref i) (.int 2) (.int (q / k)) m = .ok () (m.set i (some (.lst (srcL xs p (q / k) c d u v)))) := itemPut_ref h 2 (by simp [srcL]) (.int (q / k))
    simp only [drawDig, f__law_draw]
    simp [ix_ref h, hs2, hq, MP.mod_int, hk, MP.fdiv_int, hk2, hp2]
  · obtain ⟨e, d', he, h5, h6⟩ := draw_num (n := n) (m := m) (i := i) o ⟨h1, h2, h3, h4⟩ h hk hk2
    refine ⟨e, q, d', ?_, h5, h6, h2⟩
    rw [← he]
    simp only [drawDig, drawTail, f__law_draw]
    simp [ix_ref h, hs2, hq]
theorem draw_eq (h : SrcAt m i u v) (hk : 0 < k) (hk2 : k < 1073741824) :
    ∃ e xs p q c d, pd.tx.call (n + 2) i__law_draw [.ref i, .int k] m = .ok (.int e) (m.set i (some (.lst (srcL xs p q c d u v)))) ∧ 0 ≤ e ∧ e < k ∧ SrcOk p q c := by
  obtain ⟨xs, p, q, c, d, ⟨h1, h2, h3, h4⟩, hm⟩ := h
  have hi : i < m.length := lt_of_get hm
  rw [call_body (fi := f__law_draw.fi) (us := [.ref i, .int k]) rfl rfl]
  show ∃ e xs p q c d, asRes (evSs (CL n) pd.tx.xn f__law_draw.body [some (.ref i), some (.int k), none, none, none] m) = _ ∧ _
  have hs0 : (srcL xs p q c d u v)[0]? = some (.lst (xs.map W.int)) := rfl
  have hs1 : (srcL xs p q c d u v)[1]? = some (.int p) := rfl
  have hs2 : (srcL xs p q c d u v)[2]? = some (.int q) := rfl
  have hs3 : (srcL xs p q c d u v)[3]? = some (.int c) := rfl
  by_cases hc : q = 0 ∧ p < xs.length
  · obtain ⟨hq0, hpl⟩ := hc
    subst hq0
    obtain ⟨P, rfl⟩ : ∃ P : Nat, p = (P : Int) := ⟨p.toNat, by omega⟩
    have hP : P < xs.length := by omega
    have hat : atI (xs.map W.int) (P : Int) = some (.int xs[P]) := by
      rw [MP.atI_nat, List.getElem?_map, List.getElem?_eq_getElem hP]; rfl
    have hp1 : itemPut (.ref i) (.int 1) (.int ((P : Int) + 1)) m = .ok () (m.set i (some (.lst (srcL xs ((P : Int) + 1) 0 c d u v)))) := itemPut_ref hm 1 (by simp [srcL]) (.int ((P : Int) + 1))
    have hm1 : (m.set i (some (.lst (srcL xs ((P : Int) + 1) 0 c d u v))))[i]? = some (some (.lst (srcL xs ((P : Int) + 1) 0 c d u v))) := List.getElem?_set_self hi
    have hs3' : (srcL xs ((P : Int) + 1) 0 c d u v)[3]? = some (.int c) := rfl
    by_cases hb : (1000000000000000000 : Int) ≤ xs[P]
    · have hp2 : itemPut (.ref i) (.int 2) (.int xs[P]) (m.set i (some (.lst (srcL xs ((P : Int) + 1) 0 c d u v)))) = .ok () ((m.set i (some (.lst (srcL xs ((P : Int) + 1) 0 c d u v)))).set i (some (.lst (srcL xs ((P : Int) + 1) xs[P] c d u v)))) := itemPut_ref hm1 2 (by simp [srcL]) (.int xs[P])
      rw [List.set_set] at hp2
      have hm2 : (m.set i (some (.lst (srcL xs ((P : Int) + 1) xs[P] c d u v))))[i]? = some (some (.lst (srcL xs ((P : Int) + 1) xs[P] c d u v))) := List.getElem?_set_self hi
      obtain ⟨e, q', d', he, h5, h6, h7⟩ := draw_dig (n := n) (some (.int xs[P])) ⟨by omega, by omega, h3, h4⟩ hm2 hk hk2
      rw [List.set_set] at he
      refine ⟨e, xs, (P : Int) + 1, q', c, d', ?_, h5, h6, by omega, h7, h3, h4⟩
      rw [← he]
      simp only [f__law_draw, drawDig]
      simp [ix_ref hm, hs0, hs1, hs2, hP, hat, hp1, pow_18, hb, hp2]
    · have e1 := emod_rng (c * 69621 + xs[P]) (b := 2147483647) (by decide)
      have hp2 : itemPut (.ref i) (.int 3) (.int ((c * 69621 + xs[P]) % 2147483647)) (m.set i (some (.lst (srcL xs ((P : Int) + 1) 0 c d u v)))) = .ok () ((m.set i (some (.lst (srcL xs ((P : Int) + 1) 0 c d u v)))).set i (some (.lst (srcL xs ((P : Int) + 1) 0 ((c * 69621 + xs[P]) % 2147483647) d u v)))) := itemPut_ref hm1 3 (by simp [srcL]) (.int ((c * 69621 + xs[P]) % 2147483647))
      rw [List.set_set] at hp2
      have hm2 : (m.set i (some (.lst (srcL xs ((P : Int) + 1) 0 ((c * 69621 + xs[P]) % 2147483647) d u v))))[i]? = some (some (.lst (srcL xs ((P : Int) + 1) 0 ((c * 69621 + xs[P]) % 2147483647) d u v))) := List.getElem?_set_self hi
      obtain ⟨e, q', d', he, h5, h6, h7⟩ := draw_dig (n := n) (some (.int xs[P])) ⟨by omega, by omega, by omega, by omega⟩ hm2 hk hk2
      rw [List.set_set] at he
      refine ⟨e, xs, (P : Int) + 1, q', (c * 69621 + xs[P]) % 2147483647, d', ?_, h5, h6, by omega, h7, by omega, by omega⟩
      rw [← he]
      simp only [f__law_draw, drawDig]
      simp [ix_ref hm, hs0, hs1, hs2, hP, hat, hp1, pow_18, hb, hp2, ix_ref hm1, hs3', mul_r, MP.mod_int]
  · obtain ⟨e, q', d', he, h5, h6, h7⟩ := draw_dig (n := n) none ⟨h1, h2, h3, h4⟩ hm hk hk2
    refine ⟨e, xs, p, q', c, d', ?_, h5, h6, h1, h7, h3, h4⟩
    rw [← he]
    simp only [f__law_draw, drawDig]
    by_cases hq : q = 0
    · have hpl : ¬ (p < xs.length) := fun z => hc ⟨hq, z⟩
      subst hq
      simp [ix_ref hm, hs0, hs1, hs2, hpl]
    · simp [ix_ref hm, hs2, hq]
end
/-- a later memory: nothing but the source has changed, there may be more -/
def Later (i : Nat) (u v : Int) (m m' : M) : Prop := m.length ≤ m'.length ∧ (∀ j, j < m.length → j ≠ i → m'[j]? = m[j]?) ∧ SrcAt m' i u v
theorem Later.refl {i : Nat} {u v : Int} {m : M} (h : SrcAt m i u v) : Later i u v m m := ⟨Nat.le_refl _, fun _ _ _ => rfl, h⟩
theorem Later.trans {i : Nat} {u v u' v' : Int} {a b c : M} (h : Later i u v a b) (k : Later i u' v' b c) : Later i u' v' a c :=
  ⟨Nat.le_trans h.1 k.1, fun j hj hi => (k.2.1 j (Nat.lt_of_lt_of_le hj h.1) hi).trans (h.2.1 j hj hi), k.2.2⟩
theorem SrcAt.lt {i : Nat} {u v : Int} {m : M} (h : SrcAt m i u v) : i < m.length := by
  obtain ⟨xs, p, q, c, d, _, hm⟩ := h
  exact lt_of_get hm
theorem SrcAt.app {i : Nat} {u v : Int} {m : M} (h : SrcAt m i u v) (x : M) : SrcAt (m ++ x) i u v := by
  have hl := h.lt
  obtain ⟨xs, p, q, c, d, ok, hm⟩ := h
  exact ⟨xs, p, q, c, d, ok, by rw [List.getElem?_append_left hl]; exact hm⟩
theorem Later.app {i : Nat} {u v : Int} {a b : M} (h : Later i u v a b) (x : M) : Later i u v a (b ++ x) := by
  refine ⟨by rw [List.length_append]; have := h.1; omega, fun j hj hi => ?_, h.2.2.app x⟩
  rw [List.getElem?_append_left (Nat.lt_of_lt_of_le hj h.1)]
  exact h.2.1 j hj hi
theorem Later.dat {i : Nat} {u v u' v' : Int} {a b : M} (h : Later i u v a b) (hs : SrcAt a i u' v') {w : W} (hd : Dat a w = true) : Dat b w = true := by
  refine Dat.mono (fun j hj => ?_) hd
  obtain ⟨xs, p, q, c, d, ok, hm⟩ := hs
  have hji : j ≠ i := fun z => by
    subst z
    unfold opq at hj
    rw [hm] at hj
    cases hj
  have hjl : j < a.length := by
    unfold opq at hj
    cases e : a[j]? with
    | none => rw [e] at hj; cases hj
    | some o => exact lt_of_get e
  unfold opq at hj ⊢
  rw [h.2.1 j hjl hji]
  exact hj
theorem draw {n i : Nat} {m : M} {k u v : Int} (h : SrcAt m i u v) (hk : 0 < k) (hk2 : k < 1073741824) : ∃ e m', pd.tx.call (n + 2) i__law_draw [.ref i, .int k] m = .ok (.int e) m' ∧ 0 ≤ e ∧ e < k ∧ Later i u v m m' := by
  have hl := h.lt
  obtain ⟨e, xs, p, q, c, d, h1, h2, h3, h4⟩ := draw_eq (n := n) h hk hk2
  refine ⟨e, _, h1, h2, h3, by simp, fun j _ hj => List.getElem?_set_ne (Ne.symm hj), xs, p, q, c, d, h4, List.getElem?_set_self hl⟩
theorem source_eq {n : Nat} {m : M} {ns : List Int} {u v : Int} (hl : ns.length ≤ 63) : pd.tx.call (n + 2) i__law_source [.kl (ns.map W.int), .int u, .int v] m = .ok (.ref m.length) (m ++ [some (.lst (srcL ns 0 0 1 0 u v))]) := by
  rw [call_body (fi := f__law_source.fi) (us := [.kl (ns.map W.int), .int u, .int v]) rfl rfl]
  show asRes (evSs (CL n) pd.tx.xn f__law_source.body [some (.kl (ns.map W.int)), some (.int u), some (.int v)] m) = _
  have : ns.length ≤ 1000 := by omega
  simp [f__law_source, listSem, rdL, srcL, this]
theorem source_src {m : M} {ns : List Int} {u v : Int} : SrcAt (m ++ [some (.lst (srcL ns 0 0 1 0 u v))]) m.length u v := by
  have e := get_app m [some (O.lst (srcL ns 0 0 1 0 u v))] 0
  exact ⟨ns, 0, 0, 1, 0, ⟨by decide, by decide, by decide, by decide⟩, e⟩
/-- an item of a list of texts -/
theorem at_strs {ss : List Str} {e : Int} (h0 : 0 ≤ e) (h1 : e < ss.length) : ∃ x ∈ ss, atI (ss.map W.str) e = some (.str x) := by
  obtain ⟨k, rfl⟩ : ∃ k : Nat, e = (k : Int) := ⟨e.toNat, by omega⟩
  have hk : k < ss.length := by omega
  refine ⟨ss[k], List.getElem_mem hk, ?_⟩
  rw [MP.atI_nat, List.getElem?_map, List.getElem?_eq_getElem hk]; rfl
theorem ix_str {z : Str} {e : Int} {m : M} (hz : z.length ≤ 100000) (h0 : 0 ≤ e) (h1 : e < z.length) : ∃ c ∈ z.cps.toList, ixSem (.str z) (.int e) m = .ok (.str ⟨#[c]⟩) m := by
  obtain ⟨k, rfl⟩ : ∃ k : Nat, e = (k : Int) := ⟨e.toNat, by omega⟩
  have hk : k < z.cps.toList.length := by
    have : z.cps.toList.length = z.length := by simp [Str.length]
    omega
  refine ⟨z.cps.toList[k], List.getElem_mem hk, ?_⟩
  simp only [ixSem]
  rw [if_pos (by rw [sizeLine_eq]; omega), MP.atI_nat, List.getElem?_eq_getElem hk]
/-- a comprehension whose items draw -/
theorem cp_draws {p : Cp} {σ : Sl} {j : Nat} {I : M → Prop} {Q : W → Prop} (ht : p.tg = .nm j) (hc : p.cond = yes) :
    ∀ {ws : List W} {m : M}, I m → (∀ w ∈ ws, ∀ m, I m → ∃ x m', p.elt ((wipeW σ p.vs).set j (some w)) m = .ok x m' ∧ I m' ∧ Q x) → ∃ xs m', cpItems p σ ws m = .ok xs m' ∧ I m' ∧ xs.length = ws.length ∧ ∀ x ∈ xs, Q x
  | [], m, hi, _ => ⟨[], m, rfl, hi, rfl, by simp⟩
  | w :: ws, m, hi, h => by
    obtain ⟨x, m1, e1, i1, q1⟩ := h w (List.mem_cons_self ..) m hi
    obtain ⟨xs, m2, e2, i2, l2, q2⟩ := cp_draws ht hc (ws := ws) i1 fun y hy => h y (List.mem_cons_of_mem _ hy)
    refine ⟨x :: xs, m2, ?_, i2, by simp [l2], fun y hy => ?_⟩
    · simp [cpItems, cpTurn_all ht hc, e1, e2]
    · rcases List.mem_cons.mp hy with rfl | hy
      · exact q1
      · exact q2 y hy
end MPT
end

section
set_option maxHeartbeats 4000000
/-! Meth: parameters, methods, statements from their parts (plain). -/
namespace MPT
open PySem PySem.Spec PyProof.Rows L2 MP

theorem anyF {f : W → Bool} {xs : List W} (h : ∀ x ∈ xs, f x = false) : MP.anyB f xs = false := by
  show xs.any f = false
  rw [List.any_eq_false]
  intro x hx
  rw [h x hx]; decide
theorem uq_app : ∀ (ss acc : List Str), (acc ++ ss).Nodup → ss.foldl uqS acc = acc ++ ss
  | [], acc, _ => by simp
  | s :: ss, acc, h => by
    have hn : ¬ (acc.any (· == s)) = true := by
      intro z
      obtain ⟨y, hy, e⟩ := List.any_eq_true.mp z
      have e := eq_of_beq e
      subst e
      have := List.nodup_append.mp h
      exact this.2.2 y hy y (List.mem_cons_self ..) rfl
    have e : uqS acc s = acc ++ [s] := by unfold uqS; rw [if_neg hn]
    rw [List.foldl_cons, e, uq_app ss (acc ++ [s]) (by simpa using h)]
    try simp
theorem uq_nodup {ss : List Str} (h : ss.Nodup) : uq ss = ss := uq_app ss [] (by simpa using h)
theorem strs_map (ss : List Str) : strsOf (ss.map W.str) = ss := by
  unfold strsOf
  induction ss with
  | nil => rfl
  | cons s ss ih => rw [List.map_cons, List.filterMap_cons]; simp [isStr, ih]
theorem arePar_of {ss : List Str} (hl : ss.length ≤ 3) (hn : ss.Nodup) (h : ∀ x ∈ ss, isName (.str x) = true) : arePar (.lst (ss.map W.str)) = true := by
  simp only [arePar, lstW]
  rw [strs_map, uq_nodup hn]
  simp only [Bool.and_eq_true, decide_eq_true_eq, List.length_map, and_true]
  refine ⟨by omega, MP.allB_iff.mpr fun x hx => ?_⟩
  obtain ⟨y, hy, rfl⟩ := List.mem_map.mp hx
  exact h y hy
theorem memS_iff {ss : List Str} {x : Str} : memS ss x = true ↔ x ∈ ss := by
  simp [memS]
theorem bl_simple {word : Str} {rest : List W} (h : Simple word rest) : blocksOf (.tup (.str word :: rest)) = [] := by
  cases h <;> simp [blocksOf]
theorem gs_simple {f : Nat} {within : Bool} {kind word : Str} {rest : List W} (h : Simple word rest) (hl : word = "leave" → within = true) (hg : word = "give" → kind ≠ "top") (ha : kind ≠ "method" → ∀ e ∈ exprsOf (.tup (.str word :: rest)), usesAbove 5 e = false) :
    gS f within kind (.tup (.str word :: rest)) = true ∧ cntS f (.tup (.str word :: rest)) = 1 := by
  refine ⟨gS_iff.mpr ⟨stmt_simple h, ?_, by rw [bl_simple h]; simp⟩, by unfold cntS; rw [bl_simple h]; simp⟩
  have hx : kind = "method" ∨ MP.anyB (usesAbove 5) (exprsOf (.tup (.str word :: rest))) = false := by
    by_cases hk : kind = "method"
    · exact .inl hk
    · exact .inr (anyF (ha hk))
  simp only [misplaced, headIs, bl_simple h]
  have hc : word ≠ "call" := by cases h <;> simp
  rcases hx with hx | hx <;> simp_all
  exact fun z w => hg w z
theorem gs_call {f : Nat} {within : Bool} {kind how : Str} {nm e : W} {xs : List W} (h1 : memS howsL how = true) (h2 : (if memS ["let", "set"] how then isName nm else MP.isNon nm) = true) (h3 : isExpr 5 e = true) (h4 : xs.length ≤ 3) (h5 : ∀ x ∈ xs, isExpr 5 x = true)
    (hg : how = "give" → kind ≠ "top") (ha : kind ≠ "method" → ∀ x ∈ e :: xs, usesAbove 5 x = false) : gS f within kind (.tup [.str "call", .str how, nm, e, .lst xs]) = true ∧ cntS f (.tup [.str "call", .str how, nm, e, .lst xs]) = 1 := by
  have hb : blocksOf (.tup [.str "call", .str how, nm, e, .lst xs]) = [] := by simp [blocksOf]
  refine ⟨gS_iff.mpr ⟨stmt_of (.call h1 h2 h3 rfl (by omega) (MP.allB_iff.mpr h5)), ?_, by rw [hb]; simp⟩, by unfold cntS; rw [hb]; simp⟩
  have he : exprsOf (.tup [.str "call", .str how, nm, e, .lst xs]) = e :: xs := by simp [exprsOf, lstW]
  have hx : kind = "method" ∨ MP.anyB (usesAbove 5) (e :: xs) = false := by
    by_cases hk : kind = "method"
    · exact .inl hk
    · exact .inr (anyF (ha hk))
  simp only [misplaced, headIs, hb, he]
  rcases hx with hx | hx <;> simp_all
  exact fun z w => hg w z
section
variable {f : Nat} {within : Bool} {kind : Str}
theorem gs_if {e a b : W} (h1 : isExpr 5 e = true) (ha : kind ≠ "method" → usesAbove 5 e = false) (g1 : gB (f + 1) within kind a = true) (g2 : gB (f + 1) within kind b = true) :
    gS (f + 1) within kind (.tup [.str "if", e, a, b]) = true ∧ cntS (f + 1) (.tup [.str "if", e, a, b]) = 1 + (cntB (f + 1) a + cntB (f + 1) b) := by
  obtain ⟨xs, ea, _⟩ := gB_iff.mp g1
  obtain ⟨ys, eb, _⟩ := gB_iff.mp g2
  have hb : blocksOf (.tup [.str "if", e, a, b]) = [a, b] := by simp [blocksOf]
  refine ⟨gS_iff.mpr ⟨stmt_of (.if_ h1 (isLst_L ea) (isLst_L eb)), ?_, ?_⟩, by unfold cntS; rw [hb]; simp⟩
  · have he : exprsOf (.tup [.str "if", e, a, b]) = [e] := by simp [exprsOf]
    have hx : kind = "method" ∨ MP.anyB (usesAbove 5) [e] = false := by
      by_cases hk : kind = "method"
      · exact .inl hk
      · exact .inr (anyF (by simpa using ha hk))
    simp only [misplaced, headIs, hb, he]
    rcases hx with hx | hx <;> simp_all <;> omega
  · rw [hb]
    have w1 : withinIn (.tup [.str "if", e, a, b]) within = within := by simp [withinIn, headIs]
    have w2 : kindIn (.tup [.str "if", e, a, b]) kind = kind := by simp [kindIn, headIs]
    rw [w1, w2]
    simp [g1, g2]
theorem gs_while {e a : W} (h1 : isExpr 5 e = true) (ha : kind ≠ "method" → usesAbove 5 e = false) (g1 : gB (f + 1) true kind a = true) :
    gS (f + 1) within kind (.tup [.str "while", e, a]) = true ∧ cntS (f + 1) (.tup [.str "while", e, a]) = 1 + cntB (f + 1) a := by
  obtain ⟨xs, ea, _⟩ := gB_iff.mp g1
  have hb : blocksOf (.tup [.str "while", e, a]) = [a] := by simp [blocksOf]
  refine ⟨gS_iff.mpr ⟨stmt_of (.while_ h1 (isLst_L ea)), ?_, ?_⟩, by unfold cntS; rw [hb]; simp⟩
  · have he : exprsOf (.tup [.str "while", e, a]) = [e] := by simp [exprsOf, memS]
    have hx : kind = "method" ∨ MP.anyB (usesAbove 5) [e] = false := by
      by_cases hk : kind = "method"
      · exact .inl hk
      · exact .inr (anyF (by simpa using ha hk))
    simp only [misplaced, headIs, hb, he]
    rcases hx with hx | hx <;> simp_all <;> omega
  · rw [hb]
    have w1 : withinIn (.tup [.str "while", e, a]) within = true := by simp [withinIn, headIs]
    have w2 : kindIn (.tup [.str "while", e, a]) kind = kind := by simp [kindIn, headIs]
    rw [w1, w2]
    simp [g1]
theorem gs_try {nm a b c : W} (h : isTry [a, nm, b, c] = true) (g1 : gB (f + 1) within kind a = true) (g2 : gB (f + 1) within kind b = true) (g3 : gB (f + 1) within kind c = true) :
    gS (f + 1) within kind (.tup [.str "try", a, nm, b, c]) = true ∧ cntS (f + 1) (.tup [.str "try", a, nm, b, c]) = 1 + (cntB (f + 1) a + (cntB (f + 1) b + cntB (f + 1) c)) := by
  have hb : blocksOf (.tup [.str "try", a, nm, b, c]) = [a, b, c] := by simp [blocksOf]
  refine ⟨gS_iff.mpr ⟨stmt_of (.try_ h), ?_, ?_⟩, by unfold cntS; rw [hb]; simp⟩
  · have he : exprsOf (.tup [.str "try", a, nm, b, c]) = [] := by simp [exprsOf]
    simp only [misplaced, headIs, hb, he]
    simp [MP.anyB] <;> omega
  · rw [hb]
    have w1 : withinIn (.tup [.str "try", a, nm, b, c]) within = within := by simp [withinIn, headIs]
    have w2 : kindIn (.tup [.str "try", a, nm, b, c]) kind = kind := by simp [kindIn, headIs]
    rw [w1, w2]
    simp [g1, g2, g3]
theorem gs_def {nm ps b : W} (h1 : isName nm = true) (h2 : arePar ps = true) (g1 : gB (f + 1) false "def" b = true) :
    gS (f + 1) within kind (.tup [.str "def", nm, ps, b]) = true ∧ cntS (f + 1) (.tup [.str "def", nm, ps, b]) = 1 + cntB (f + 1) b := by
  obtain ⟨xs, eb, _⟩ := gB_iff.mp g1
  have hb : blocksOf (.tup [.str "def", nm, ps, b]) = [b] := by simp [blocksOf]
  refine ⟨gS_iff.mpr ⟨stmt_of (.def_ h1 h2 (isLst_L eb)), ?_, ?_⟩, by unfold cntS; rw [hb]; simp⟩
  · have he : exprsOf (.tup [.str "def", nm, ps, b]) = [] := by simp [exprsOf]
    simp only [misplaced, headIs, hb, he]
    simp [MP.anyB] <;> omega
  · rw [hb]
    have w1 : withinIn (.tup [.str "def", nm, ps, b]) within = false := by simp [withinIn, headIs]
    have w2 : kindIn (.tup [.str "def", nm, ps, b]) kind = "def" := by simp [kindIn, headIs]
    rw [w1, w2]
    simp [g1]
/-- a method -/
def methW (q : Str × List Str × W) : W := .tup [.str q.1, .lst (q.2.1.map W.str), q.2.2]
structure MethOk (q : Str × List Str × W) : Prop where
  nm : isName (.str q.1) = true
  lo : 1 ≤ q.2.1.length
  hi : q.2.1.length ≤ 3
  nd : q.2.1.Nodup
  ps : ∀ x ∈ q.2.1, isName (.str x) = true
  bl : isLstW q.2.2 = true
theorem methOk_of {names : List Str} {q : Str × List Str × W} (h : MethOk q) (hn : q.1 ∉ names) : methOk names (methW q) = some q.1 := by
  have h1 : memS names q.1 = false := by
    cases e : memS names q.1 with
    | false => rfl
    | true => exact absurd (memS_iff.mp e) hn
  have h2 : emptyL (.lst (q.2.1.map W.str)) = false := by
    simp only [emptyL, lstW]
    have := h.lo
    cases e : q.2.1 with
    | nil => rw [e] at this; simp at this
    | cons _ _ => simp
  simp [methW, methOk, h.nm, h1, arePar_of h.hi h.nd h.ps, h2, h.bl]
theorem runF_meth : ∀ (qs : List (Str × List Str × W)) (names : List Str), (∀ q ∈ qs, MethOk q) → (names ++ qs.map (·.1)).Nodup → (runF (fun names x => (methOk names x).map fun nm => names ++ [nm]) names (qs.map methW)).1 = true
  | [], names, _, _ => rfl
  | q :: qs, names, h, hn => by
    have hq : q.1 ∉ names := fun z => (List.nodup_append.mp hn).2.2 q.1 z q.1 (by simp) rfl
    simp only [List.map_cons, runF, methOk_of (h q (List.mem_cons_self ..)) hq, Option.map_some]
    exact runF_meth qs (names ++ [q.1]) (fun x hx => h x (List.mem_cons_of_mem _ hx)) (by simpa using hn)
theorem areMeth_of {qs : List (Str × List Str × W)} (hl : qs.length ≤ 4) (h : ∀ q ∈ qs, MethOk q) (hn : (qs.map (·.1)).Nodup) : areMeth (.lst (qs.map methW)) = true := by
  simp only [areMeth, lstW, List.length_map, Bool.and_eq_true, decide_eq_true_eq]
  exact ⟨by omega, runF_meth qs [] h (by simpa using hn)⟩
theorem gs_class {nm e : W} {qs : List (Str × List Str × W)} (h1 : isName nm = true) (h2 : e = .non ∨ (isExpr 5 e = true ∧ (kind ≠ "method" → usesAbove 5 e = false))) (hl : qs.length ≤ 4) (h : ∀ q ∈ qs, MethOk q) (hn : (qs.map (·.1)).Nodup)
    (hd : qs = [] ∨ 1 ≤ f) (g : ∀ q ∈ qs, gB f false "method" q.2.2 = true) :
    gS f within kind (.tup [.str "class", nm, e, .lst (qs.map methW)]) = true ∧ cntS f (.tup [.str "class", nm, e, .lst (qs.map methW)]) = 1 + (qs.map fun q => cntB f q.2.2).sum := by
  have hb : blocksOf (.tup [.str "class", nm, e, .lst (qs.map methW)]) = qs.map (·.2.2) := by
    simp [blocksOf, lstW, methW]
  refine ⟨gS_iff.mpr ⟨stmt_of (.class_ h1 ?_ rfl (areMeth_of hl h hn)), ?_, ?_⟩, by unfold cntS; rw [hb, List.map_map]; rfl⟩
  · rcases h2 with rfl | ⟨h2, _⟩
    · simp [MP.isNon]
    · simp [h2]
  · have hx : kind = "method" ∨ MP.anyB (usesAbove 5) (exprsOf (.tup [.str "class", nm, e, .lst (qs.map methW)])) = false := by
      by_cases hk : kind = "method"
      · exact .inl hk
      · right
        rcases h2 with rfl | ⟨h2, h3⟩
        · simp [exprsOf, MP.isNon, MP.anyB]
        · by_cases he : MP.isNon e = true
          · simp [exprsOf, he, MP.anyB]
          · simp [exprsOf, he, MP.anyB, h3 hk]
    have hd' : (8 ≤ 8 - (f : Int) → qs = []) := fun z => by
      rcases hd with hd | hd
      · exact hd
      · omega
    simp only [misplaced, headIs, hb]
    by_cases hq : qs = []
    · subst hq
      rcases hx with hx | hx <;> simp_all
    · have : ¬ (8 ≤ 8 - (f : Int)) := fun z => hq (hd' z)
      rcases hx with hx | hx <;> simp_all
  · rw [hb]
    have w1 : withinIn (.tup [.str "class", nm, e, .lst (qs.map methW)]) within = false := by simp [withinIn, headIs]
    have w2 : kindIn (.tup [.str "class", nm, e, .lst (qs.map methW)]) kind = "method" := by simp [kindIn, headIs]
    rw [w1, w2]
    intro b hb'
    obtain ⟨q, hq, rfl⟩ := List.mem_map.mp hb'
    exact g q hq
end
end MPT
end

section
set_option maxHeartbeats 4000000
/-! K07a: statements without a fault but by their number, their place in a block, their depth. -/
namespace MPT
open PySem PySem.Spec PyProof.Rows L2 MP

def freeS (w : W) : Bool := !headIs w "leave" && !headIs w "give" && !headIs w "call" && !MP.anyB (usesAbove 5) (exprsOf w)
def sh : Nat → W → Bool
  | 0, _ => false
  | f + 1, w => isStmt w && Pu w && freeS w && decide (rsz w ≤ 1000 + ((blocksOf w).map rsz).sum) && MP.allB (fun b => match lstW b with
    | some xs => decide (xs.length ≤ 100) && MP.allB (sh f) xs
    | none => false) (blocksOf w)
def shB (f : Nat) (b : W) : Bool := match lstW b with
  | some xs => decide (xs.length ≤ 100) && MP.allB (sh f) xs
  | none => false
theorem sh_iff {f : Nat} {w : W} : sh (f + 1) w = true ↔ isStmt w = true ∧ Pu w = true ∧ freeS w = true ∧ rsz w ≤ 1000 + ((blocksOf w).map rsz).sum ∧ ∀ b ∈ blocksOf w, shB f b = true := by
  show (isStmt w && Pu w && freeS w && decide (rsz w ≤ 1000 + ((blocksOf w).map rsz).sum) && MP.allB (shB f) (blocksOf w)) = true ↔ _
  simp only [Bool.and_eq_true, decide_eq_true_eq, MP.allB_iff, and_assoc]
theorem shB_iff {f : Nat} {b : W} : shB f b = true ↔ ∃ xs, lstW b = some xs ∧ xs.length ≤ 100 ∧ ∀ x ∈ xs, sh f x = true := by
  unfold shB
  cases e : lstW b with
  | none => simp
  | some xs => simp [MP.allB_iff]
theorem sh_mono : ∀ {f : Nat} {w : W}, sh f w = true → sh (f + 1) w = true
  | 0, _, h => by simp [sh] at h
  | f + 1, w, h => by
    obtain ⟨h1, h2, h3, h4, h5⟩ := sh_iff.mp h
    refine sh_iff.mpr ⟨h1, h2, h3, h4, fun b hb => ?_⟩
    obtain ⟨xs, e, hl, hx⟩ := shB_iff.mp (h5 b hb)
    exact shB_iff.mpr ⟨xs, e, hl, fun x hx' => sh_mono (hx x hx')⟩
theorem sh_le {f g : Nat} {w : W} (hfg : f ≤ g) (h : sh f w = true) : sh g w = true := by
  induction hfg with
  | refl => exact h
  | step _ ih => exact sh_mono ih
theorem sh_stmt {f : Nat} {w : W} (h : sh f w = true) : isStmt w = true ∧ Pu w = true ∧ freeS w = true := by
  cases f with
  | zero => simp [sh] at h
  | succ f => obtain ⟨h1, h2, h3, _⟩ := sh_iff.mp h; exact ⟨h1, h2, h3⟩
/-- only the depth can be a fault -/
theorem mis_free {w : W} {d : Int} {within : Bool} {kind : Str} (h : freeS w = true) : misplaced w d within kind = (decide (8 ≤ d) && !(blocksOf w).isEmpty) := by
  unfold freeS at h
  simp only [Bool.and_eq_true, Bool.not_eq_true'] at h
  obtain ⟨⟨⟨h1, h2⟩, h3⟩, h4⟩ := h
  simp only [misplaced, h1, h2, h3, h4]
  simp
theorem runX_app {S E : Type} (step : S → Nat → W → Except E S) : ∀ (xs ys : List W) (s : S) (k : Nat), runX step s k (xs ++ ys) = match runX step s k xs with
    | .ok s' => runX step s' (k + xs.length) ys
    | .error e => .error e
  | [], ys, s, k => by simp [runX]
  | x :: xs, ys, s, k => by
    simp only [List.cons_append, runX]
    cases step s k x with
    | ok s' =>
      simp only
      rw [runX_app step xs ys s' (k + 1), List.length_cons, show k + 1 + xs.length = k + (xs.length + 1) by omega]
    | error e => rfl
def shE (w : W) : Prop := ∃ g, sh g w = true
theorem shE_blocks {w b : W} (h : shE w) (hb : b ∈ blocksOf w) : ∃ ys, lstW b = some ys ∧ ∀ y ∈ ys, shE y := by
  obtain ⟨g, h⟩ := h
  cases g with
  | zero => simp [sh] at h
  | succ g =>
    obtain ⟨ys, e, _, hy⟩ := shB_iff.mp ((sh_iff.mp h).2.2.2.2 b hb)
    exact ⟨ys, e, fun y hy' => ⟨g, hy y hy'⟩⟩
/-- what passes the check keeps the rules -/
theorem chk_gB : ∀ (f j : Nat), f + j = 8 → ∀ {b : W} {xs : List W} {place : List Nat} {within : Bool} {kind : Str} {before many : Nat}, place.length = 2 * j → 1 ≤ f → lstW b = some xs → (∀ x ∈ xs, shE x) →
    chkBlock f xs place within kind before = .ok many → gB f within kind b = true ∧ many = before + cntB f b ∧ (before ≤ 80 → many ≤ 80)
  | 0, _, _, _, _, _, _, _, _, _, _, h, _, _, _ => by omega
  | f + 1, j, hj, b, xs, place, within, kind, before, many, hp, _, e, hx, h => by
    have inner : ∀ (w : W) (i : Nat) (bs : List W) (k s s' : Nat), (bs ≠ [] → 1 ≤ f) → (∀ b ∈ bs, ∃ ys, lstW b = some ys ∧ ∀ y ∈ ys, shE y) →
        runX (fun many k b => chkBlock f ((lstW b).getD []) (place ++ [i, k]) (withinIn w within) (kindIn w kind) many) s k bs = .ok s' → (∀ b ∈ bs, gB f (withinIn w within) (kindIn w kind) b = true) ∧ s' = s + (bs.map (cntB f)).sum ∧ (s ≤ 80 → s' ≤ 80) := by
      intro w i bs
      induction bs with
      | nil =>
        intro k s s' _ _ h
        simp only [runX, Except.ok.injEq] at h
        subst h
        exact ⟨by simp, by simp, id⟩
      | cons c bs ih =>
        intro k s s' hf hb h
        obtain ⟨ys, ey, hy⟩ := hb c (List.mem_cons_self ..)
        simp only [runX, ey, Option.getD_some] at h
        cases hc : chkBlock f ys (place ++ [i, k]) (withinIn w within) (kindIn w kind) s with
        | error p => rw [hc] at h; cases h
        | ok s1 =>
          rw [hc] at h
          obtain ⟨g1, g2, g3⟩ := chk_gB f (j + 1) (by omega) (b := c) (place := place ++ [i, k]) (by simp [hp]; omega) (hf (by simp)) ey hy hc
          obtain ⟨r1, r2, r3⟩ := ih (k + 1) s1 s' (fun _ => hf (by simp)) (fun b hb' => hb b (List.mem_cons_of_mem _ hb')) h
          refine ⟨fun b hb' => ?_, by rw [List.map_cons, List.sum_cons]; omega, fun z => r3 (g3 z)⟩
          rcases List.mem_cons.mp hb' with rfl | hb'
          · exact g1
          · exact r1 b hb'
    have hd : ((place.length : Int) / 2 + 1) = 8 - (f : Int) := by rw [hp]; omega
    have outer : ∀ (xs : List W) (k s s' : Nat), (∀ x ∈ xs, shE x) → k ≤ 12 →
        runX (fun many i st => if i = 12 ∨ many = 80 ∨ isStmt st = false then .error (place ++ [i]) else if misplaced st ((place.length : Int) / 2 + 1) within kind = true then .error (place ++ [i]) else
          runX (fun many k b => chkBlock f ((lstW b).getD []) (place ++ [i, k]) (withinIn st within) (kindIn st kind) many) (many + 1) 0 (blocksOf st)) s k xs = .ok s' → (∀ x ∈ xs, gS f within kind x = true) ∧ k + xs.length ≤ 12 ∧ s' = s + (xs.map (cntS f)).sum ∧ (s ≤ 80 → s' ≤ 80) := by
      intro xs
      induction xs with
      | nil =>
        intro k s s' _ hk h
        simp only [runX, Except.ok.injEq] at h
        subst h
        exact ⟨by simp, by simpa using hk, by simp, id⟩
      | cons x xs ih =>
        intro k s s' hx hk h
        have hxe := hx x (List.mem_cons_self ..)
        have hxs : isStmt x = true ∧ Pu x = true ∧ freeS x = true := by obtain ⟨g, hg⟩ := hxe; exact sh_stmt hg
        simp only [runX] at h
        by_cases h1 : k = 12 ∨ s = 80 ∨ isStmt x = false
        · rw [if_pos h1] at h; cases h
        · rw [if_neg h1] at h
          by_cases h2 : misplaced x ((place.length : Int) / 2 + 1) within kind = true
          · rw [if_pos h2] at h; cases h
          · rw [if_neg h2] at h
            have h2' : misplaced x (8 - (f : Int)) within kind = false := by rw [← hd]; simpa using h2
            cases hc : runX (fun many q b => chkBlock f ((lstW b).getD []) (place ++ [k, q]) (withinIn x within) (kindIn x kind) many) (s + 1) 0 (blocksOf x) with
            | error p => rw [hc] at h; cases h
            | ok s1 =>
              rw [hc] at h
              obtain ⟨g1, g2, g3⟩ := inner x k (blocksOf x) 0 (s + 1) s1 (fun hne => by
                rw [mis_free hxs.2.2] at h2'
                rcases Nat.eq_zero_or_pos f with z | z
                · subst z
                  simp at h2'
                  exact absurd h2' hne
                · exact z) (fun b hb => shE_blocks hxe hb) hc
              obtain ⟨r1, r2, r3, r4⟩ := ih (k + 1) s1 s' (fun y hy => hx y (List.mem_cons_of_mem _ hy)) (by omega) h
              have hcs : cntS f x = 1 + ((blocksOf x).map (cntB f)).sum := rfl
              refine ⟨fun y hy => ?_, by simp; omega, by rw [List.map_cons, List.sum_cons]; omega, fun z => r4 (g3 (by omega))⟩
              rcases List.mem_cons.mp hy with rfl | hy
              · exact gS_iff.mpr ⟨hxs.1, h2', g1⟩
              · exact r1 y hy
    obtain ⟨o1, o2, o3, o4⟩ := outer xs 0 before many hx (by omega) h
    exact ⟨gB_iff.mpr ⟨xs, e, by omega, o1⟩, by rw [cntB_L e]; exact o3, o4⟩
/-- size by number -/
theorem sh_rsz : ∀ (f : Nat) {b : W} {xs : List W} {within : Bool} {kind : Str}, gB f within kind b = true → b = .lst xs → (∀ x ∈ xs, shE x) → Pu b = true → rsz b ≤ 4 + 2000 * cntB f b
  | 0, _, _, _, _, h, _, _, _ => by simp [gB] at h
  | f + 1, b, xs, within, kind, h, hb, hx, hpu => by
    subst hb
    obtain ⟨ys, e, h12, hg⟩ := gB_iff.mp h
    cases e
    rw [cntB_L (b := .lst xs) (xs := xs) rfl]
    have hpx := pu_lst hpu
    clear hpu h h12
    have : rszs xs ≤ 2000 * (xs.map (cntS f)).sum := by
      induction xs with
      | nil => simp [rszs]
      | cons x xs ih =>
        have i1 := ih (fun y hy => hx y (List.mem_cons_of_mem _ hy)) (fun y hy => hg y (List.mem_cons_of_mem _ hy)) (fun y hy => hpx y (List.mem_cons_of_mem _ hy))
        have hxe := hx x (List.mem_cons_self ..)
        have gx := hg x (List.mem_cons_self ..)
        have px := hpx x (List.mem_cons_self ..)
        have hz : rsz x ≤ 1000 + ((blocksOf x).map rsz).sum := by
          obtain ⟨g, hg⟩ := hxe
          cases g with
          | zero => simp [sh] at hg
          | succ g => exact (sh_iff.mp hg).2.2.2.1
        have hbl := blocks_len (gS_iff.mp gx).1
        have hbz : ((blocksOf x).map rsz).sum ≤ 4 * (blocksOf x).length + 2000 * ((blocksOf x).map (cntB f)).sum := by
          have key : ∀ bs : List W, (∀ b ∈ bs, b ∈ blocksOf x) → (bs.map rsz).sum ≤ 4 * bs.length + 2000 * (bs.map (cntB f)).sum := by
            intro bs
            induction bs with
            | nil => intro _; simp
            | cons b bs ih2 =>
              intro hb
              have i2 := ih2 fun y hy => hb y (List.mem_cons_of_mem _ hy)
              have hbm := hb b (List.mem_cons_self ..)
              obtain ⟨w', k', gb⟩ := gS_blocks gx hbm
              obtain ⟨ys, ey, hy⟩ := shE_blocks hxe hbm
              have pb := blocks_pu (gS_iff.mp gx).1 px b hbm
              have := sh_rsz f gb (pu_L ey pb).1 hy pb
              simp only [List.map_cons, List.sum_cons, List.length_cons]
              omega
          exact key _ fun b hb => hb
        have hcs : cntS f x = 1 + ((blocksOf x).map (cntB f)).sum := rfl
        simp only [rszs, List.map_cons, List.sum_cons]
        omega
    simp only [rsz]
    omega
end MPT
end

section
set_option maxHeartbeats 4000000
/-! K07b: chains of statements. -/
namespace MPT
open PySem PySem.Spec PyProof.Rows L2 MP

theorem lev {L c : Nat} (h : c ≤ L) : ∃ n, L = n + c := ⟨L - c, by omega⟩
theorem sp_draw {L i : Nat} {m : M} {u v k : Int} {Q : W → M → Prop} (h : SrcAt m i u v) (hL : 2 ≤ L) (hk : 0 < k) (hk2 : k < 1073741824) (hQ : ∀ e m', 0 ≤ e → e < k → Later i u v m m' → Q (.int e) m') : Sp (pd.tx.call L i__law_draw [.ref i, .int k] m) Q := by
  obtain ⟨n, rfl⟩ := lev hL
  obtain ⟨e, m', d, a, b, l⟩ := draw (n := n) h hk hk2
  exact ⟨_, _, d, hQ e m' a b l⟩
theorem rl : ∀ x ∈ (["if", "while", "try", "def", "class", "say", "cut", "add", "raise", "a", "f", "c", "m", "n", "d", "name", "text", "none", "yes", "no"] : List Str), rsz (.str x) ≤ 62 ∧ Pu (.str x) = true := by decide +kernel
def aW : W := .tup [.str "name", .str "a"]
theorem aW_ok : isExpr 5 aW = true ∧ Pu aW = true ∧ usesAbove 5 aW = false ∧ rsz aW ≤ 150 := by
  refine ⟨by decide +kernel, by decide +kernel, by decide +kernel, by decide +kernel⟩
def linkL (a s : W) : List W := [
  .tup [.str "if", aW, a, s], .tup [.str "if", aW, s, a], .tup [.str "while", aW, a], .tup [.str "try", a, .str "a", s, s], .tup [.str "try", s, .str "a", a, s], .tup [.str "try", s, .str "a", s, a],
  .tup [.str "def", .str "f", .lst [], a], .tup [.str "class", .str "c", aW, .lst [.tup [.str "m", .lst [.str "a"], a], .tup [.str "n", .lst [.str "a"], s]]],
  .tup [.str "class", .str "c", .non, .lst [.tup [.str "m", .lst [.str "a"], s], .tup [.str "n", .lst [.str "a"], a]]]]
theorem pu_tups {xs : List W} (hl : xs.length ≤ 1000) (h : ∀ x ∈ xs, Pu x = true) : Pu (.tup xs) = true := Pu_tup hl h
section
variable {f : Nat} {a s : W}
theorem link_sh (ha : shB f a = true) (hs : shB f s = true) (pa : Pu a = true) (ps : Pu s = true) : ∀ w ∈ linkL a s, sh (f + 1) w = true := by
  obtain ⟨e1, e2, e3, e4⟩ := aW_ok
  have na : isName (.str "a") = true := by decide +kernel
  have nf : isName (.str "f") = true := by decide +kernel
  have nc : isName (.str "c") = true := by decide +kernel
  have nm : isName (.str "m") = true := by decide +kernel
  have nn : isName (.str "n") = true := by decide +kernel
  have hla : isLstW a = true := by obtain ⟨xs, e, _⟩ := shB_iff.mp ha; exact isLst_L e
  have hls : isLstW s = true := by obtain ⟨xs, e, _⟩ := shB_iff.mp hs; exact isLst_L e
  have T : ∀ xs, rsz (.tup xs) = 4 + rszs xs := fun _ => by simp only [rsz]
  have Ls : ∀ xs, rsz (.lst xs) = 4 + rszs xs := fun _ => by simp only [rsz]
  have C : ∀ x xs, rszs (x :: xs) = rsz x + 2 + rszs xs := fun _ _ => by simp only [rszs]
  have Nl : rszs [] = 0 := rfl
  have Nn : rsz .non = 5 := rfl
  have r1 := (rl "if" (by simp)).1
  have r2 := (rl "while" (by simp)).1
  have r3 := (rl "try" (by simp)).1
  have r4 := (rl "def" (by simp)).1
  have r5 := (rl "class" (by simp)).1
  have r6 := (rl "a" (by simp)).1
  have r7 := (rl "f" (by simp)).1
  have r8 := (rl "c" (by simp)).1
  have r9 := (rl "m" (by simp)).1
  have r10 := (rl "n" (by simp)).1
  have pl : ∀ {x : Str}, x ∈ (["if", "while", "try", "def", "class", "say", "cut", "add", "raise", "a", "f", "c", "m", "n", "d", "name", "text", "none", "yes", "no"] : List Str) → Pu (.str x) = true := fun hx => (rl _ hx).2
  have pnil : Pu (.lst []) = true := rfl
  have pms : Pu (.lst [.str "a"]) = true := by decide +kernel
  have hw : ∀ {w : W} {bs : List W}, isStmt w = true → Pu w = true → freeS w = true → blocksOf w = bs → rsz w ≤ 1000 + (bs.map rsz).sum → (∀ b ∈ bs, shB f b = true) → sh (f + 1) w = true := by
    intro w bs h1 h2 h3 h4 h5 h6
    exact sh_iff.mpr ⟨h1, h2, h3, by rw [h4]; exact h5, by rw [h4]; exact h6⟩
  have meth : ∀ {x y : W}, isLstW x = true → isLstW y = true → areMeth (.lst [.tup [.str "m", .lst [.str "a"], x], .tup [.str "n", .lst [.str "a"], y]]) = true := by
    intro x y hx hy
    exact areMeth_of (qs := [("m", ["a"], x), ("n", ["a"], y)]) (by simp) (by
      intro q hq
      simp only [List.mem_cons, List.not_mem_nil, or_false] at hq
      rcases hq with rfl | rfl
      · exact ⟨nm, by simp, by simp, by simp, by simpa using na, hx⟩
      · exact ⟨nn, by simp, by simp, by simp, by simpa using na, hy⟩) (by simp)
  unfold linkL
  simp only [List.forall_mem_cons, List.not_mem_nil, false_implies, implies_true, and_true]
  refine ⟨?_, ?_, ?_, ?_, ?_, ?_, ?_, ?_, ?_⟩
  · exact hw (bs := [a, s]) (stmt_of (.if_ e1 hla hls)) (pu_tups (by simp) (by simp [pl, e2, pa, ps])) (by simp [freeS, headIs, exprsOf, e3, MP.anyB]) (by simp [blocksOf]) (by simp only [T, C, Nl, List.map, List.sum_cons, List.sum_nil]; omega) (by simp [ha, hs])
  · exact hw (bs := [s, a]) (stmt_of (.if_ e1 hls hla)) (pu_tups (by simp) (by simp [pl, e2, pa, ps])) (by simp [freeS, headIs, exprsOf, e3, MP.anyB]) (by simp [blocksOf]) (by simp only [T, C, Nl, List.map, List.sum_cons, List.sum_nil]; omega) (by simp [ha, hs])
  · exact hw (bs := [a]) (stmt_of (.while_ e1 hla)) (pu_tups (by simp) (by simp [pl, e2, pa, ps])) (by simp [freeS, headIs, exprsOf, memS, e3, MP.anyB]) (by simp [blocksOf]) (by simp only [T, C, Nl, List.map, List.sum_cons, List.sum_nil]; omega) (by simp [ha, hs])
  · exact hw (bs := [a, s, s]) (stmt_of (.try_ (by simp [isTry, hla, hls, na]))) (pu_tups (by simp) (by simp [pl, e2, pa, ps])) (by simp [freeS, headIs, exprsOf, MP.anyB]) (by simp [blocksOf]) (by simp only [T, C, Nl, List.map, List.sum_cons, List.sum_nil]; omega) (by simp [ha, hs])
  · exact hw (bs := [s, a, s]) (stmt_of (.try_ (by simp [isTry, hla, hls, na]))) (pu_tups (by simp) (by simp [pl, e2, pa, ps])) (by simp [freeS, headIs, exprsOf, MP.anyB]) (by simp [blocksOf]) (by simp only [T, C, Nl, List.map, List.sum_cons, List.sum_nil]; omega) (by simp [ha, hs])
  · exact hw (bs := [s, s, a]) (stmt_of (.try_ (by simp [isTry, hla, hls, na]))) (pu_tups (by simp) (by simp [pl, e2, pa, ps])) (by simp [freeS, headIs, exprsOf, MP.anyB]) (by simp [blocksOf]) (by simp only [T, C, Nl, List.map, List.sum_cons, List.sum_nil]; omega) (by simp [ha, hs])
  · exact hw (bs := [a]) (stmt_of (.def_ nf (by decide +kernel) hla)) (pu_tups (by simp) (by simp [pl, e2, pa, ps, pnil])) (by simp [freeS, headIs, exprsOf, MP.anyB]) (by simp [blocksOf]) (by simp only [T, Ls, C, Nl, List.map, List.sum_cons, List.sum_nil]; omega) (by simp [ha, hs])
  · exact hw (bs := [a, s]) (stmt_of (.class_ nc (by simp [e1]) rfl (meth hla hls))) (pu_tups (by simp) (by
      simp only [List.forall_mem_cons, List.not_mem_nil, false_implies, implies_true, and_true]
      exact ⟨pl (by simp), pl (by simp), e2, Pu_lst (by simp) (by
        simp only [List.forall_mem_cons, List.not_mem_nil, false_implies, implies_true, and_true]
        exact ⟨pu_tups (by simp) (by simp [pl, pms, pa]), pu_tups (by simp) (by simp [pl, pms, ps])⟩)⟩)) (by simp [freeS, headIs, exprsOf, aW, MP.isNon, MP.anyB]; exact e3) (by simp [blocksOf, lstW]) (by simp only [T, Ls, C, Nl, List.map, List.sum_cons, List.sum_nil]; omega) (by simp [ha, hs])
  · exact hw (bs := [s, a]) (stmt_of (.class_ nc (by simp [MP.isNon]) rfl (meth hls hla))) (pu_tups (by simp) (by
      simp only [List.forall_mem_cons, List.not_mem_nil, false_implies, implies_true, and_true]
      exact ⟨pl (by simp), pl (by simp), rfl, Pu_lst (by simp) (by
        simp only [List.forall_mem_cons, List.not_mem_nil, false_implies, implies_true, and_true]
        exact ⟨pu_tups (by simp) (by simp [pl, pms, ps]), pu_tups (by simp) (by simp [pl, pms, pa])⟩)⟩)) (by simp [freeS, headIs, exprsOf, MP.isNon, MP.anyB]) (by simp [blocksOf, lstW]) (by simp only [T, Ls, C, Nl, Nn, List.map, List.sum_cons, List.sum_nil]; omega) (by simp [ha, hs])
end
theorem mul_rep (x : W) (k : Nat) (m : M) (hk : k ≤ 100) : binSem true .mul (.lst [x]) (.int (k : Int)) m = .ok (.lst (List.replicate k x)) m := by
  simp only [binSem, mulSem, lstOf, Int.toNat_natCast]
  rw [if_pos ⟨⟨Int.le_trans (show (-(2 ^ 63) : Int) ≤ 0 by decide) (Int.natCast_nonneg k), Int.lt_of_le_of_lt (show (k : Int) ≤ 100 by omega) (by decide)⟩, by rw [sizeLine_eq]; simp; omega⟩]
  rw [show (List.replicate k [x]).flatten = List.replicate k x by simp]
  exact mkLst_frz _ _ (by simp; omega)
theorem sp_link {L i f : Nat} {m : M} {u v : Int} {xs : List W} {Q : W → M → Prop} (h : SrcAt m i u v) (hL : 3 ≤ L) (hf : 1 ≤ f) (hb : shB f (.lst xs) = true) (hp : Pu (.lst xs) = true) (hQ : ∀ w m', sh (f + 1) w = true → Later i u v m m' → Q w m') : Sp (pd.tx.call L i__law_link [.ref i, .lst xs] m) Q := by
  obtain ⟨n, rfl⟩ : ∃ n, L = n + 2 := ⟨L - 2, by omega⟩
  rw [call_body (fi := f__law_link.fi) (us := [.ref i, .lst xs]) rfl rfl]
  show Sp (asRes (evSs _ _ f__law_link.body [some (.ref i), some (.lst xs), none, none, none] m)) _
  simp [f__law_link, cl_c0]
  refine sp_draw h (by omega) (by omega) (by omega) fun e1 m1 a1 b1 l1 => ?_
  try simp
  refine sp_draw l1.2.2 (by omega) (by omega) (by omega) fun e2 m2 a2 b2 l2 => ?_
  obtain ⟨k, rfl⟩ : ∃ k : Nat, e2 = (k : Int) := ⟨e2.toNat, by omega⟩
  have hk : k ≤ 1 := by omega
  have hmul := mul_rep (.tup [.str "say", .tup [.str "name", .str "a"]]) k m2 (by omega)
  obtain ⟨q, rfl⟩ : ∃ q : Nat, e1 = (q : Int) := ⟨e1.toNat, by omega⟩
  have hq : q < 9 := by omega
  have hsm : shB f (.lst (List.replicate k (.tup [.str "say", .tup [.str "name", .str "a"]]))) = true ∧ Pu (.lst (List.replicate k (.tup [.str "say", .tup [.str "name", .str "a"]]))) = true := by
    have h1 : sh 1 (.tup [.str "say", .tup [.str "name", .str "a"]]) = true := by decide +kernel
    have h2 : Pu (.tup [.str "say", .tup [.str "name", .str "a"]]) = true := by decide +kernel
    refine ⟨shB_iff.mpr ⟨_, rfl, by simp; omega, fun x hx => ?_⟩, Pu_lst (by simp; omega) fun x hx => ?_⟩
    · rw [(List.mem_replicate.mp hx).2]; exact sh_le hf h1
    · rw [(List.mem_replicate.mp hx).2]; exact h2
  have hlk := link_sh hb hsm.1 hp hsm.2
  have hl : q < (linkL (.lst xs) (.lst (List.replicate k (.tup [.str "say", .tup [.str "name", .str "a"]])))).length := hq
  have hat : atI (linkL (.lst xs) (.lst (List.replicate k (.tup [.str "say", .tup [.str "name", .str "a"]])))) (q : Int) = some (linkL (.lst xs) (.lst (List.replicate k (.tup [.str "say", .tup [.str "name", .str "a"]]))))[q] := by rw [MP.atI_nat, List.getElem?_eq_getElem hl]
  have hfin := hQ _ m2 (hlk _ (List.getElem_mem hl)) (l1.trans l2)
  generalize (linkL (.lst xs) (.lst (List.replicate k (.tup [.str "say", .tup [.str "name", .str "a"]]))))[q] = w at hat hfin
  simp only [linkL, aW] at hat
  simp [hmul, hat]
  exact hfin
end MPT
end

section
set_option maxHeartbeats 4000000
/-! Same: the law's looks at values. -/
namespace MPT
open PySem PySem.Spec PyProof.Rows L2 MP

theorem lev2 {L c : Nat} (h : c ≤ L) : ∃ n, L = n + c := ⟨L - c, by omega⟩
@[simp] theorem eq_bl (neg : Bool) (x y : Bool) (m : M) : eqSem neg (.bl x) (.bl y) m = .ok (.bl ((x == y) != neg)) m := by
  cases x <;> cases y <;> cases neg <;> simp [eqSem, isDictW, PyData.eqv]
theorem all_true (k : Nat) (m : M) : allSem false (.lst (List.replicate k (W.bl true))) m = .ok (.bl true) m := by
  have := MP.all_map (fun _ : Unit => true) (List.replicate k ()) m
  rw [List.map_replicate] at this
  rw [this]
  simp
/-- items that are looked at by place -/
theorem cp_range {p : Cp} {σ : Sl} {m : M} {j n : Nat} {g : Nat → W} (ht : p.tg = .nm j) (hc : p.cond = yes) (h : ∀ k, k < n → p.elt ((wipeW σ p.vs).set j (some (.int (k : Int)))) m = .ok (g k) m) :
    cpItems p σ ((List.range n).map fun (i : Nat) => (W.int (i : Int))) m = .ok ((List.range n).map g) m := by
  have key : ∀ l : List Nat, (∀ k ∈ l, k < n) → cpItems p σ (l.map fun (i : Nat) => (W.int (i : Int))) m = .ok (l.map g) m := by
    intro l
    induction l with
    | nil => intro _; rfl
    | cons k l ih =>
      intro hl
      have e1 := h k (hl k (List.mem_cons_self ..))
      have e2 := ih fun x hx => hl x (List.mem_cons_of_mem _ hx)
      simp [cpItems, cpTurn_all ht hc, e1, e2]
  exact key _ fun k hk => List.mem_range.mp hk
theorem map_const (n : Nat) (w : W) : (List.range n).map (fun _ => w) = List.replicate n w := by
  rw [List.map_const']; simp
theorem same_refl : ∀ (d : Nat) {L : Nat} {m : M} {w : W}, dep w ≤ d → Pu w = true → d + 2 ≤ L → pd.tx.call L i__law_same [w, w] m = .ok (.bl true) m := by
  intro d
  induction d with
  | zero =>
    intro L m w hd hp hL
    obtain ⟨n, rfl⟩ : ∃ n, L = n + 2 := ⟨L - 2, by omega⟩
    rw [call_body (fi := f__law_same.fi) (us := [w, w]) rfl rfl]
    show asRes (evSs (CL n) pd.tx.xn f__law_same.body [some w, some w, none] m) = _
    have h := MP.Pu.dat m hp
    cases w with
    | tup xs => simp [dep] at hd
    | lst xs => simp [dep] at hd
    | non => simp [f__law_same, cl_g, isa_lst isaB h, isa_tup isaB h, isLstW, isTupW, MP.isNon]
    | bl b => simp [f__law_same, cl_g, isa_lst isaB h, isa_tup isaB h, isa_str isaB h, isa_bl isaB h, isLstW, isTupW, isStrW, isBlW, MP.isNon]
    | int i => simp [f__law_same, cl_g, isa_lst isaB h, isa_tup isaB h, isa_str isaB h, isa_bl isaB h, isa_int isaB h, isLstW, isTupW, isStrW, isBlW, isIntW, MP.isNon]
    | str x => simp [f__law_same, cl_g, isa_lst isaB h, isa_tup isaB h, isa_str isaB h, isLstW, isTupW, isStrW, MP.isNon]
    | _ => simp [Pu] at hp
  | succ d ih =>
    intro L m w hd hp hL
    obtain ⟨n, rfl⟩ : ∃ n, L = n + 2 := ⟨L - 2, by omega⟩
    rw [call_body (fi := f__law_same.fi) (us := [w, w]) rfl rfl]
    show asRes (evSs (CL n) pd.tx.xn f__law_same.body [some w, some w, none] m) = _
    have h := MP.Pu.dat m hp
    have each : ∀ xs : List W, (∀ x ∈ xs, dep x ≤ d ∧ Pu x = true) → ∀ k, k < xs.length → ∃ x, atI xs (k : Int) = some x ∧ pd.tx.call (n + 1) i__law_same [x, x] m = .ok (.bl true) m := by
      intro xs hx k hk
      refine ⟨xs[k], by rw [MP.atI_nat, List.getElem?_eq_getElem hk], ?_⟩
      obtain ⟨h1, h2⟩ := hx _ (List.getElem_mem hk)
      exact ih h1 h2 (by omega)
    cases w with
    | tup xs =>
      simp only [Pu, Bool.and_eq_true, decide_eq_true_eq] at hp
      simp only [dep] at hd
      have hx : ∀ x ∈ xs, dep x ≤ d ∧ Pu x = true := fun x hx => ⟨by have := dep_mem hx; omega, Pus_iff.mp hp.2 x hx⟩
      have hsr := srcR1_nat xs.length m (by omega)
      simp [f__law_same, cl_g, cl_c0, isa_lst isaB h, isa_tup isaB h, isLstW, isTupW, hsr]
      rw [cp_range (n := xs.length) (g := fun _ => .bl true) rfl rfl (fun k hk => by
        obtain ⟨x, e1, e2⟩ := each xs hx k hk
        simp [wipeW, e1, e2])]
      rw [map_const]
      simp [mkLst_frz _ m (show (List.replicate xs.length (W.bl true)).length ≤ 1000 by simpa using hp.1), all_true]
    | lst xs =>
      simp only [Pu, Bool.and_eq_true, decide_eq_true_eq] at hp
      simp only [dep] at hd
      have hx : ∀ x ∈ xs, dep x ≤ d ∧ Pu x = true := fun x hx => ⟨by have := dep_mem hx; omega, Pus_iff.mp hp.2 x hx⟩
      have hsr := srcR1_nat xs.length m (by omega)
      simp [f__law_same, cl_g, cl_c0, isa_lst isaB h, isa_tup isaB h, isLstW, isTupW, hsr]
      rw [cp_range (n := xs.length) (g := fun _ => .bl true) rfl rfl (fun k hk => by
        obtain ⟨x, e1, e2⟩ := each xs hx k hk
        simp [wipeW, e1, e2])]
      rw [map_const]
      simp [mkLst_frz _ m (show (List.replicate xs.length (W.bl true)).length ≤ 1000 by simpa using hp.1), all_true]
    | non => simp [f__law_same, cl_g, isa_lst isaB h, isa_tup isaB h, isLstW, isTupW, MP.isNon]
    | bl b => simp [f__law_same, cl_g, isa_lst isaB h, isa_tup isaB h, isa_str isaB h, isa_bl isaB h, isLstW, isTupW, isStrW, isBlW, MP.isNon]
    | int i => simp [f__law_same, cl_g, isa_lst isaB h, isa_tup isaB h, isa_str isaB h, isa_bl isaB h, isa_int isaB h, isLstW, isTupW, isStrW, isBlW, isIntW, MP.isNon]
    | str x => simp [f__law_same, cl_g, isa_lst isaB h, isa_tup isaB h, isa_str isaB h, isLstW, isTupW, isStrW, MP.isNon]
    | _ => simp [Pu] at hp
theorem law_inner_eq {n : Nat} {m : M} {w : W} (hs : isStmt w = true) : pd.tx.call (n + 2) i__law_inner [w] m = .ok (.lst (blocksOf w)) m := by
  obtain ⟨word, rest, rfl⟩ := isStmt_tup hs
  rw [call_body (fi := f__law_inner.fi) (us := [.tup (.str word :: rest)]) rfl rfl]
  show asRes (evSs (CL n) pd.tx.xn f__law_inner.body [some (.tup (.str word :: rest)), none] m) = _
  by_cases h1 : word = "if"
  · subst h1
    simp [isStmt, memS, isCompound] at hs
    split at hs
    · simp [f__law_inner, blocksOf]
    · cases hs
  by_cases h2 : word = "while"
  · subst h2
    simp [isStmt, memS, isCompound] at hs
    split at hs
    · simp [f__law_inner, blocksOf]
    · cases hs
  by_cases h3 : word = "try"
  · subst h3
    simp [isStmt, memS, isCompound, isTry] at hs
    split at hs
    · simp [f__law_inner, blocksOf]
    · cases hs
  by_cases h4 : word = "def"
  · subst h4
    simp [isStmt, memS, isCompound] at hs
    split at hs
    · simp [f__law_inner, blocksOf]
    · cases hs
  by_cases h5 : word = "class"
  · subst h5
    simp [isStmt, memS, isCompound] at hs
    split at hs
    · rename_i a b c
      simp only [Bool.and_eq_true] at hs
      have hm := hs.2.2
      unfold areMeth at hm
      cases ec : lstW c with
      | none => rw [ec] at hm; cases hm
      | some xs =>
        rw [ec] at hm
        simp only [Bool.and_eq_true, decide_eq_true_eq] at hm
        have he := isMeth_each hm.2
        simp [f__law_inner, blocksOf, ec, src_L ec]
        rw [cpItems_each (i := 1) (g := fun x => match x with
          | .tup [_, _, b] => b
          | _ => .non) rfl rfl (fun x hx => by
            obtain ⟨nm, ps, b, rfl, _⟩ := he x hx
            simp [wipeW])]
        have : xs.length ≤ 1000 := by omega
        simp [this]
        try (
          intro x hx
          obtain ⟨nm, ps, b, rfl, _⟩ := he x hx
          rfl)
    · cases hs
  · simp [f__law_inner, blocksOf, h1, h2, h3, h4, h5]
theorem intsW_path (p : List Nat) : intsW (p.map fun (k : Nat) => W.int (k : Int)) = some (p.map fun (k : Nat) => (k : Int)) := by
  induction p with
  | nil => rfl
  | cons k p ih => simp only [List.map_cons, intsW, ih, Option.map_some]
theorem lt_path (p q : List Nat) (m : M) : cmpSem .lt (pathW p) (pathW q) m = .ok (.bl (HT.lexLt (p.map fun (k : Nat) => (k : Int)) (q.map fun (k : Nat) => (k : Int)))) m := by
  simp only [cmpSem, ltSem, pathW, intsW_path]
/-- a list of paths and one that is still made -/
theorem same_paths {L : Nat} {m : M} {j : Nat} {ps : List (List Nat)} (h : m[j]? = some (some (.lst (ps.map pathW)))) (hl : ps.length ≤ 1000) (hq : ∀ p ∈ ps, p.length ≤ 1000 ∧ Pu (pathW p) = true) (hL : 10 ≤ L) : pd.tx.call L i__law_same [.lst (ps.map pathW), .ref j] m = .ok (.bl true) m := by
  obtain ⟨n, rfl⟩ : ∃ n, L = n + 8 + 2 := ⟨L - 10, by omega⟩
  rw [call_body (fi := f__law_same.fi) (us := [.lst (ps.map pathW), .ref j]) rfl rfl]
  show asRes (evSs (CL (n + 8)) pd.tx.xn f__law_same.body [some (.lst (ps.map pathW)), some (.ref j), none] m) = _
  obtain ⟨i1, i2⟩ := isa_ref_lst h
  have hd : Dat m (.lst (ps.map pathW)) = true := by
    simp only [Dat]
    rw [Dats_iff]
    intro x hx
    obtain ⟨p, _, rfl⟩ := List.mem_map.mp hx
    exact dat_path p m
  have hsr := srcR1_nat ps.length m (by omega)
  have hlen : lenSem (.ref j) m = .ok (.int ps.length) m := by simp [lenSem, rdL, h]
  simp [f__law_same, cl_g, cl_c0, i1, i2, isa_lst isaB hd, isLstW, hlen, hsr]
  rw [cp_range (n := ps.length) (g := fun _ => .bl true) rfl rfl (fun k hk => by
    have e1 : atI (ps.map pathW) (k : Int) = some (pathW ps[k]) := by rw [MP.atI_nat, List.getElem?_map, List.getElem?_eq_getElem hk]; rfl
    have e2 : ixSem (.ref j) (.int (k : Int)) m = .ok (pathW ps[k]) m := by
      unfold ixSem
      simp only [seqOf, rdL, rdT, h, e1]
    have e3 := same_refl 1 (L := n + 8 + 1) (m := m) (w := pathW ps[k]) (by
      have : ∀ q : List Nat, deps (q.map fun (k : Nat) => W.int (k : Int)) = 0 := by
        intro q
        induction q with
        | nil => rfl
        | cons a q ih => simp only [List.map_cons, deps, ih, dep]; rfl
      simp only [pathW, dep, this]; omega) (hq _ (List.getElem_mem hk)).2 (by omega)
    simp [wipeW, e1, e2, e3])]
  rw [map_const]
  simp [mkLst_frz _ m (show (List.replicate ps.length (W.bl true)).length ≤ 1000 by simpa using hl), all_true]
end MPT
end

section
set_option maxHeartbeats 4000000
/-! K07c: chains; counting; the law's own search for the first fault. -/
namespace MPT
open PySem PySem.Spec PyProof.Rows L2 MP

theorem at_mem {xs : List W} {e : Int} (h0 : 0 ≤ e) (h1 : e < xs.length) : ∃ x ∈ xs, atI xs e = some x := by
  obtain ⟨k, rfl⟩ : ∃ k : Nat, e = (k : Int) := ⟨e.toNat, by omega⟩
  have hk : k < xs.length := by omega
  exact ⟨xs[k], List.getElem_mem hk, by rw [MP.atI_nat, List.getElem?_eq_getElem hk]⟩
theorem add_lsts {xs ys : List W} {m : M} (h : xs.length + ys.length ≤ 1000) : binSem true .add (.lst xs) (.lst ys) m = .ok (.lst (xs ++ ys)) m := by
  have h' : (xs ++ ys).length ≤ 1000 := by rw [List.length_append]; exact h
  simp [binSem, addSem, lstOf, h]
theorem sl_tail (xs : List W) (m : M) (h : xs.length ≤ 1000) : slSem true (.lst xs) (some 1) none m = .ok (.lst (cutL xs (some 1) none)) m := by
  simp only [slSem, rdL]
  refine mkLst_frz _ _ (Nat.le_trans ?_ h)
  unfold cutL
  rw [List.length_take, List.length_drop]
  omega
theorem shB_app {f : Nat} {xs ys : List W} (h1 : shB f (.lst xs) = true) (h2 : ∀ y ∈ ys, sh f y = true) (hl : (xs ++ ys).length ≤ 100) : shB f (.lst (xs ++ ys)) = true := by
  obtain ⟨zs, e, _, hz⟩ := shB_iff.mp h1
  cases e
  exact shB_iff.mpr ⟨_, rfl, hl, fun x hx => by
    rcases List.mem_append.mp hx with hx | hx
    · exact hz x hx
    · exact h2 x hx⟩
theorem sp_chain {L i : Nat} {m : M} {u v : Int} {b : Bool} {Q : W → M → Prop} (h : SrcAt m i u v) (hL : 5 ≤ L) (hQ : ∀ w m', sh 12 w = true → Later i u v m m' → Q w m') : Sp (pd.tx.call L i__law_chain [.ref i, .bl b] m) Q := by
  obtain ⟨n, rfl⟩ : ∃ n, L = n + 2 := ⟨L - 2, by omega⟩
  rw [call_body (fi := f__law_chain.fi) (us := [.ref i, .bl b]) rfl rfl]
  show Sp (asRes (evSs _ _ f__law_chain.body [some (.ref i), some (.bl b), none, none, none, none, none, none] m)) _
  have rest : ∀ (dp mn : Nat) (m1 : M), dp ≤ 9 → mn ≤ 14 → Later i u v m m1 → SpS (evSs (CL n) pd.tx.xn (match f__law_chain.body with
      | .cons _ (.cons _ (.cons _ r)) => r
      | x => x) [some (.ref i), some (.bl b), some (.int (dp : Int)), some (.int (mn : Int)), none, none, none, none] m1) (fun _ m => Q .non m) Q := by
    intro dp mn m1 hdp hmn l1
    have hmul := mul_rep (.tup [.str "cut", .tup [.str "yes"]]) mn m1 (by omega)
    simp [f__law_chain, cl_c0, hmul]
    refine sp_draw l1.2.2 (by omega) (by omega) (by omega) fun e2 m2 a2 b2 l2 => ?_
    have hc1 : sh 1 (.tup [.str "cut", .tup [.str "yes"]]) = true := by decide +kernel
    have hc2 : Pu (.tup [.str "cut", .tup [.str "yes"]]) = true := by decide +kernel
    have hd1 : sh 1 (.tup [.str "class", .str "d", .non, .lst []]) = true := by decide +kernel
    have hd2 : Pu (.tup [.str "class", .str "d", .non, .lst []]) = true := by decide +kernel
    have ha1 : sh 1 (.tup [.str "add", .tup [.str "none"], .tup [.str "no"]]) = true := by decide +kernel
    have ha2 : Pu (.tup [.str "add", .tup [.str "none"], .tup [.str "no"]]) = true := by decide +kernel
    have hr1 : sh 1 (.tup [.str "raise", .tup [.str "none"]]) = true := by decide +kernel
    have hr2 : Pu (.tup [.str "raise", .tup [.str "none"]]) = true := by decide +kernel
    have rest2 : ∀ (xs : List W) (m2 : M), shB 1 (.lst xs) = true → xs.length ≤ 15 → Pu (.lst xs) = true → Later i u v m m2 → SpS (evSs (CL n) pd.tx.xn (match f__law_chain.body with
        | .cons _ (.cons _ (.cons _ (.cons _ (.cons _ r)))) => r
        | x => x) [some (.ref i), some (.bl b), some (.int (dp : Int)), some (.int (mn : Int)), some (.lst xs), none, none, none] m2) (fun _ m => Q .non m) Q := by
      intro xs m2 hxs hxl hxp l2
      have hsr := srcR1_nat dp m2 (by omega)
      simp [f__law_chain, cl_c0, hsr]
      refine SpS_for (fun k σ m' => ∃ x5 x6 x7 ys, σ = [some (.ref i), some (.bl b), some (.int (dp : Int)), some (.int (mn : Int)), some (.lst ys), x5, x6, x7] ∧ shB (k + 1) (.lst ys) = true ∧ ys.length ≤ 15 ∧ (1 ≤ k → 1 ≤ ys.length) ∧ Pu (.lst ys) = true ∧ Later i u v m m')
        ⟨none, none, none, xs, rfl, hxs, hxl, by omega, hxp, l2⟩ ?_ ?_
      · rintro k w σ m' hw ⟨x5, x6, x7, ys, rfl, hys, hyl, _, hyp, l'⟩
        refine SpS.gen fun N' R' hN' hR' => ?_
        try simp
        refine sp_draw l'.2.2 (by omega) (by omega) (by omega) fun e3 m3 a3 b3 l3 => ?_
        try simp
        refine sp_link l3.2.2 (by omega) (by omega) hys hyp fun w2 m4 hw2 l4 => ?_
        have hpw := (sh_stmt hw2).2.1
        obtain ⟨k1, hk1, hk1'⟩ : ∃ k1 : Nat, (if 5 < e3 then (1 : Int) else 0) = (k1 : Int) ∧ k1 ≤ 1 := by
          split
          · exact ⟨1, rfl, by omega⟩
          · exact ⟨0, rfl, by omega⟩
        obtain ⟨k2, hk2, hk2'⟩ : ∃ k2 : Nat, (if e3 = 7 then (1 : Int) else 0) = (k2 : Int) ∧ k2 ≤ 1 := by
          split
          · exact ⟨1, rfl, by omega⟩
          · exact ⟨0, rfl, by omega⟩
        have m1' := mul_rep (.tup [.str "add", .tup [.str "none"], .tup [.str "no"]]) k1 m4 (by omega)
        have m2' := mul_rep (.tup [.str "raise", .tup [.str "none"]]) k2 m4 (by omega)
        have s1 : ∀ m, binSem true .add (.lst (List.replicate k1 (.tup [.str "add", .tup [.str "none"], .tup [.str "no"]]))) (.lst [w2]) m = .ok (.lst (List.replicate k1 (.tup [.str "add", .tup [.str "none"], .tup [.str "no"]]) ++ [w2])) m := fun m => add_lsts (by simp; omega)
        have s2 : ∀ m, binSem true .add (.lst (List.replicate k1 (.tup [.str "add", .tup [.str "none"], .tup [.str "no"]]) ++ [w2])) (.lst (List.replicate k2 (.tup [.str "raise", .tup [.str "none"]]))) m = .ok (.lst ((List.replicate k1 (.tup [.str "add", .tup [.str "none"], .tup [.str "no"]]) ++ [w2]) ++ List.replicate k2 (.tup [.str "raise", .tup [.str "none"]]))) m := fun m => add_lsts (by simp; omega)
        have hall : ∀ x ∈ (List.replicate k1 (.tup [.str "add", .tup [.str "none"], .tup [.str "no"]]) ++ [w2]) ++ List.replicate k2 (.tup [.str "raise", .tup [.str "none"]]), sh (k + 1 + 1) x = true ∧ Pu x = true := by
          intro x hx
          rcases List.mem_append.mp hx with hx | hx
          · rcases List.mem_append.mp hx with hx | hx
            · rw [(List.mem_replicate.mp hx).2]; exact ⟨sh_le (by omega) ha1, ha2⟩
            · rw [List.mem_singleton.mp hx]; exact ⟨hw2, hpw⟩
          · rw [(List.mem_replicate.mp hx).2]; exact ⟨sh_le (by omega) hr1, hr2⟩
        have hlen : ((List.replicate k1 (W.tup [.str "add", .tup [.str "none"], .tup [.str "no"]]) ++ [w2]) ++ List.replicate k2 (W.tup [.str "raise", .tup [.str "none"]])).length = k1 + 1 + k2 := by simp; omega
        simp [hk1, m1', s1, hk2, m2', s2, -List.append_assoc, -List.cons_append, -List.singleton_append, -List.reduceReplicate]
        refine hN' _ _ ⟨some w, some (.int e3), some w2, _, rfl, shB_iff.mpr ⟨_, rfl, by omega, fun x hx => (hall x hx).1⟩, by omega, fun _ => by omega, Pu_lst (by omega) fun x hx => (hall x hx).2, (l'.trans l3).trans l4⟩
      · rintro σ m' ⟨x5, x6, x7, ys, rfl, hys, hyl, hy1, hyp, l'⟩
        have hys : shB (dp + 1) (.lst ys) = true := by simpa using hys
        have hy1 : 1 ≤ dp → 1 ≤ ys.length := fun z => hy1 (by simpa using z)
        obtain ⟨zs, ez, _, hz⟩ := shB_iff.mp hys
        cases ez
        by_cases h0 : dp = 0
        · subst h0
          simp
          refine hQ _ m' (sh_le (f := 2) (by omega) (sh_iff.mpr ⟨stmt_of (.if_ (by decide +kernel) rfl rfl), pu_tups (by simp) (by simp [hyp, (rl "if" (by simp)).2]; decide +kernel), by simp [freeS, headIs, exprsOf, MP.anyB]; decide +kernel, ?_, ?_⟩)) l'
          · have T : ∀ xs, rsz (.tup xs) = 4 + rszs xs := fun _ => by simp only [rsz]
            have C : ∀ x xs, rszs (x :: xs) = rsz x + 2 + rszs xs := fun _ _ => by simp only [rszs]
            have Nl : rszs [] = 0 := rfl
            have r1 := (rl "if" (by simp)).1
            have r2 : rsz (.tup [.str "yes"]) ≤ 100 := by decide +kernel
            have r3 : rsz (.lst []) = 4 := rfl
            rw [show blocksOf (.tup [.str "if", .tup [.str "yes"], .lst ys, .lst []]) = [.lst ys, .lst []] by simp [blocksOf]]
            rw [T, C, C, C, C, Nl]
            simp only [List.map, List.sum_cons, List.sum_nil]
            omega
          · rw [show blocksOf (.tup [.str "if", .tup [.str "yes"], .lst ys, .lst []]) = [.lst ys, .lst []] by simp [blocksOf]]
            intro b hb
            simp only [List.mem_cons, List.not_mem_nil, or_false] at hb
            rcases hb with rfl | rfl
            · exact hys
            · rfl
        · have h0' : ¬ (dp : Int) = 0 := by omega
          have hpos := hy1 (by omega)
          have hq : (ys.length : Int) / 2 = ((ys.length / 2 : Nat) : Int) := by omega
          have hlt : ys.length / 2 < ys.length := by omega
          have hat : atI ys ((ys.length : Int) / 2) = some ys[ys.length / 2] := by rw [hq, MP.atI_nat, List.getElem?_eq_getElem hlt]
          simp [h0, MP.fdiv_int, hat]
          exact hQ _ m' (sh_le (by omega) (hz _ (List.getElem_mem hlt))) l'
    by_cases h2 : e2 = 0
    · subst h2
      have hsl := sl_tail (List.replicate mn (.tup [.str "cut", .tup [.str "yes"]])) m2 (by simp; omega)
      have hcl : (cutL (List.replicate mn (W.tup [.str "cut", .tup [.str "yes"]])) (some 1) none).length ≤ 14 := by
        unfold cutL
        rw [List.length_take, List.length_drop]
        simp; omega
      have hcm : ∀ x ∈ cutL (List.replicate mn (W.tup [.str "cut", .tup [.str "yes"]])) (some 1) none, x = .tup [.str "cut", .tup [.str "yes"]] := fun x hx => (List.mem_replicate.mp (List.mem_of_mem_drop (List.mem_of_mem_take hx))).2
      generalize cutL (List.replicate mn (W.tup [.str "cut", .tup [.str "yes"]])) (some 1) none = tl at hsl hcl hcm
      have hadd : ∀ m, binSem true .add (.lst [.tup [.str "class", .str "d", .non, .lst []]]) (.lst tl) m = .ok (.lst ([.tup [.str "class", .str "d", .non, .lst []]] ++ tl)) m := fun m => add_lsts (by simp; omega)
      simp [eSl, MP.part, hsl, hadd, -List.singleton_append, -List.cons_append, -List.reduceReplicate]
      have := rest2 ([.tup [.str "class", .str "d", .non, .lst []]] ++ tl) m2 (shB_iff.mpr ⟨_, rfl, by simp; omega, fun x hx => by
        rcases List.mem_append.mp hx with hx | hx
        · rw [List.mem_singleton.mp hx]; exact hd1
        · rw [hcm x hx]; exact hc1⟩) (by simp; omega) (Pu_lst (by simp; omega) fun x hx => by
        rcases List.mem_append.mp hx with hx | hx
        · rw [List.mem_singleton.mp hx]; exact hd2
        · rw [hcm x hx]; exact hc2) (l1.trans l2)
      simpa [f__law_chain, cl_c0, -List.singleton_append, -List.cons_append] using this
    · simp [h2]
      have := rest2 (List.replicate mn (.tup [.str "cut", .tup [.str "yes"]])) m2 (shB_iff.mpr ⟨_, rfl, by simp; omega, fun x hx => by rw [(List.mem_replicate.mp hx).2]; exact hc1⟩) (by simp; omega) (Pu_lst (by simp; omega) fun x hx => by rw [(List.mem_replicate.mp hx).2]; exact hc2) (l1.trans l2)
      simpa [f__law_chain, cl_c0] using this
  simp [f__law_chain, cl_c0]
  refine sp_draw h (by omega) (by omega) (by omega) fun e1 m1 a1 b1 l1 => ?_
  try simp
  refine sp_draw l1.2.2 (by omega) (by omega) (by omega) fun e2 m2 a2 b2 l2 => ?_
  obtain ⟨d, hd, hdm⟩ := at_mem (xs := [W.int 0, W.int 1, W.int 5, W.int 6, W.int 7, W.int 8, W.int e1]) (e := e2) a2 (by simp; omega)
  have hdI : ∃ dp : Nat, d = .int (dp : Int) ∧ dp ≤ 9 := by
    simp only [List.mem_cons, List.not_mem_nil, or_false] at hd
    rcases hd with rfl | rfl | rfl | rfl | rfl | rfl | rfl
    · exact ⟨0, rfl, by omega⟩
    · exact ⟨1, rfl, by omega⟩
    · exact ⟨5, rfl, by omega⟩
    · exact ⟨6, rfl, by omega⟩
    · exact ⟨7, rfl, by omega⟩
    · exact ⟨8, rfl, by omega⟩
    · exact ⟨e1.toNat, by rw [Int.toNat_of_nonneg a1], by omega⟩
  obtain ⟨dp, rfl, hdp⟩ := hdI
  simp [hdm]
  refine sp_draw l2.2.2 (by omega) (by omega) (by omega) fun e3 m3 a3 b3 l3 => ?_
  try simp
  refine sp_draw l3.2.2 (by omega) (by omega) (by omega) fun e4 m4 a4 b4 l4 => ?_
  obtain ⟨c, hc, hcm⟩ := at_mem (xs := [W.int 0, W.int 1, W.int 2, W.int 11, W.int 12, W.int 13, W.int 14, W.int e3]) (e := e4) a4 (by simp; omega)
  have hcI : ∃ mn : Nat, c = .int (mn : Int) ∧ mn ≤ 14 := by
    simp only [List.mem_cons, List.not_mem_nil, or_false] at hc
    rcases hc with rfl | rfl | rfl | rfl | rfl | rfl | rfl | rfl
    · exact ⟨0, rfl, by omega⟩
    · exact ⟨1, rfl, by omega⟩
    · exact ⟨2, rfl, by omega⟩
    · exact ⟨11, rfl, by omega⟩
    · exact ⟨12, rfl, by omega⟩
    · exact ⟨13, rfl, by omega⟩
    · exact ⟨14, rfl, by omega⟩
    · exact ⟨e3.toNat, by rw [Int.toNat_of_nonneg a3], by omega⟩
  obtain ⟨mn, rfl, hmn⟩ := hcI
  have l14 := ((l1.trans l2).trans l3).trans l4
  cases b with
  | false =>
    simp [hcm]
    simpa [f__law_chain, cl_c0] using rest dp mn m4 hdp hmn l14
  | true =>
    simp [hcm]
    refine sp_draw l4.2.2 (by omega) (by omega) (by omega) fun e5 m5 a5 b5 l5 => ?_
    obtain ⟨d2, hd2, hdm2⟩ := at_mem (xs := [W.int 0, W.int 1, W.int 1, W.int 2, W.int 3, W.int 7]) (e := e5) a5 (by simp; omega)
    have hdI2 : ∃ dp : Nat, d2 = .int (dp : Int) ∧ dp ≤ 9 := by
      simp only [List.mem_cons, List.not_mem_nil, or_false] at hd2
      rcases hd2 with rfl | rfl | rfl | rfl | rfl | rfl
      · exact ⟨0, rfl, by omega⟩
      · exact ⟨1, rfl, by omega⟩
      · exact ⟨1, rfl, by omega⟩
      · exact ⟨2, rfl, by omega⟩
      · exact ⟨3, rfl, by omega⟩
      · exact ⟨7, rfl, by omega⟩
    obtain ⟨dp2, rfl, hdp2⟩ := hdI2
    simp [hdm2]
    refine sp_draw l5.2.2 (by omega) (by omega) (by omega) fun e6 m6 a6 b6 l6 => ?_
    obtain ⟨c2, hc2, hcm2⟩ := at_mem (xs := [W.int 1, W.int 2, W.int 4, W.int 6, W.int 9, W.int 12]) (e := e6) a6 (by simp; omega)
    have hcI2 : ∃ mn : Nat, c2 = .int (mn : Int) ∧ mn ≤ 14 := by
      simp only [List.mem_cons, List.not_mem_nil, or_false] at hc2
      rcases hc2 with rfl | rfl | rfl | rfl | rfl | rfl
      · exact ⟨1, rfl, by omega⟩
      · exact ⟨2, rfl, by omega⟩
      · exact ⟨4, rfl, by omega⟩
      · exact ⟨6, rfl, by omega⟩
      · exact ⟨9, rfl, by omega⟩
      · exact ⟨12, rfl, by omega⟩
    obtain ⟨mn2, rfl, hmn2⟩ := hcI2
    simp [hcm2]
    simpa [f__law_chain, cl_c0] using rest dp2 mn2 m6 hdp2 hmn2 ((l14.trans l5).trans l6)
end MPT
end

section
set_option maxHeartbeats 4000000
/-! K07d: counting; the law's own search for the first fault. -/
namespace MPT
open PySem PySem.Spec PyProof.Rows L2 MP

/-- for x in a list of the memory that does not change -/
theorem SpS_live {i j : Nat} {xs : List W} {b : Sl → M → SR} {N : Sl → M → Prop} {R : W → M → Prop} (Inv : Nat → Sl → M → Prop) (hm : ∀ k σ m, Inv k σ m → m[j]? = some (some (.lst xs))) :
    ∀ {F : Nat} {σ : Sl} {m : M}, xs.length < F → Inv 0 σ m → (∀ k w σ m, xs[k]? = some w → Inv k σ m → SpS (b (σ.set i (some w)) m) (Inv (k + 1)) R) → (∀ σ m, Inv xs.length σ m → N σ m) → SpS (forLive (.nm i) b j F 0 σ m) N R := by
  have key : ∀ (F k0 : Nat) (σ : Sl) (m : M), k0 ≤ xs.length → xs.length < F + k0 → Inv k0 σ m → (∀ k w σ m, xs[k]? = some w → Inv k σ m → SpS (b (σ.set i (some w)) m) (Inv (k + 1)) R) → (∀ σ m, Inv xs.length σ m → N σ m) → SpS (forLive (.nm i) b j F k0 σ m) N R := by
    intro F
    induction F with
    | zero => intro k0 σ m h1 h2; omega
    | succ F ih =>
      intro k0 σ m hk hF h hb hN
      simp only [forLive, hm _ _ _ h]
      cases e : xs[k0]? with
      | none =>
        simp only [SpS_nx]
        have : k0 = xs.length := by have := List.getElem?_eq_none_iff.mp e; omega
        subst this
        exact hN _ _ h
      | some w =>
        have hlt := (List.getElem?_eq_some_iff.mp e).1
        simp only [tgSem]
        rcases hb k0 w σ m e h with ⟨σ', m', e', p⟩ | ⟨v, m', e', p⟩
        · rw [e']
          exact ih (k0 + 1) σ' m' (by omega) (by omega) p hb hN
        · rw [e']; exact SpS_rt.mpr p
  intro F σ m hF h hb hN
  exact key F 0 σ m (Nat.zero_le _) hF h hb hN
theorem shE_of {f : Nat} {w : W} (h : sh f w = true) : shE w := ⟨f, h⟩
theorem sh_blk {f : Nat} {w b : W} (h : sh (f + 1) w = true) (hb : b ∈ blocksOf w) : ∃ ys, b = .lst ys ∧ ys.length ≤ 100 ∧ Pu b = true ∧ ∀ y ∈ ys, sh f y = true := by
  obtain ⟨h1, h2, _, _, h5⟩ := sh_iff.mp h
  obtain ⟨ys, e, hl, hy⟩ := shB_iff.mp (h5 b hb)
  have pb := blocks_pu h1 h2 b hb
  exact ⟨ys, (pu_L e pb).1, hl, pb, hy⟩
theorem sp_count : ∀ (f : Nat) {L : Nat} {m : M} {xs : List W} {Q : W → M → Prop}, f + 4 ≤ L → (∀ x ∈ xs, sh f x = true) → (∀ c : Int, Q (.int c) m) → Sp (pd.tx.call L i__law_count [.lst xs] m) Q := by
  intro f
  induction f with
  | zero =>
    intro L m xs Q hL hx hQ
    obtain ⟨n, rfl⟩ : ∃ n, L = n + 2 := ⟨L - 2, by omega⟩
    have : xs = [] := by
      cases xs with
      | nil => rfl
      | cons x xs => have := hx x (List.mem_cons_self ..); simp [sh] at this
    subst this
    rw [call_body (fi := f__law_count.fi) (us := [.lst []]) rfl rfl]
    show Sp (asRes (evSs _ _ f__law_count.body [some (.lst []), none, none, none] m)) _
    simp [f__law_count, cl_c0, srcOf, forAll, forItems]
    exact hQ _
  | succ f ih =>
    intro L m xs Q hL hx hQ
    obtain ⟨n, rfl⟩ : ∃ n, L = n + 2 := ⟨L - 2, by omega⟩
    rw [call_body (fi := f__law_count.fi) (us := [.lst xs]) rfl rfl]
    show Sp (asRes (evSs _ _ f__law_count.body [some (.lst xs), none, none, none] m)) _
    simp [f__law_count, cl_c0, srcOf, forAll]
    refine SpS_for (fun k σ m' => m' = m ∧ ∃ c x2 x3, σ = [some (.lst xs), some (.int c), x2, x3]) ⟨rfl, _, none, none, rfl⟩ ?_ ?_
    · rintro k w σ m' hw ⟨rfl, c, x2, x3, rfl⟩
      refine SpS.gen fun N' R' hN' hR' => ?_
      have hsw := hx w (List.mem_of_getElem? hw)
      obtain ⟨n', hn'⟩ : ∃ n', n + 1 = n' + 2 := ⟨n - 1, by omega⟩
      have hin : ∀ m, pd.tx.call (n + 1) i__law_inner [w] m = .ok (.lst (blocksOf w)) m := fun m => by rw [hn']; exact law_inner_eq (sh_stmt hsw).1
      simp [hin, srcOf, forAll]
      refine SpS_for (fun q σ s => s = m' ∧ ∃ c x3, σ = [some (.lst xs), some (.int c), some w, x3]) ⟨rfl, _, x3, rfl⟩ ?_ ?_
      · rintro q b σ s hb ⟨rfl, c, x3, rfl⟩
        refine SpS.gen fun N2 R2 hN2 hR2 => ?_
        obtain ⟨ys, rfl, _, _, hy⟩ := sh_blk hsw (List.mem_of_getElem? hb)
        try simp
        refine ih (by omega) hy fun c2 => ?_
        try simp
        exact hN2 _ _ ⟨rfl, _, _, rfl⟩
      · rintro σ s ⟨rfl, c, x3, rfl⟩
        exact hN' _ _ ⟨rfl, _, _, _, rfl⟩
    · rintro σ s ⟨rfl, c, x2, x3, rfl⟩
      simp
      exact hQ _
theorem sp_countR {f L j : Nat} {m : M} {xs : List W} {Q : W → M → Prop} (hj : m[j]? = some (some (.lst xs))) (hl : xs.length ≤ 100) (hL : f + 6 ≤ L) (hx : ∀ x ∈ xs, sh (f + 1) x = true) (hQ : ∀ c : Int, Q (.int c) m) : Sp (pd.tx.call L i__law_count [.ref j] m) Q := by
  obtain ⟨n, rfl⟩ : ∃ n, L = n + 2 := ⟨L - 2, by omega⟩
  rw [call_body (fi := f__law_count.fi) (us := [.ref j]) rfl rfl]
  show Sp (asRes (evSs _ _ f__law_count.body [some (.ref j), none, none, none] m)) _
  have hlen : lenSem (.ref j) m = .ok (.int xs.length) m := by simp [lenSem, rdL, hj]
  simp [f__law_count, cl_c0, srcOf, forAll, hlen, hj]
  refine SpS_live (fun k σ m' => m' = m ∧ ∃ c x2 x3, σ = [some (.ref j), some (.int c), x2, x3]) (fun k σ s h => by rw [h.1]; exact hj) (by rw [cl_F]; show _ < 100000; omega) ⟨rfl, _, none, none, rfl⟩ ?_ ?_
  · rintro k w σ m' hw ⟨rfl, c, x2, x3, rfl⟩
    refine SpS.gen fun N' R' hN' hR' => ?_
    have hsw := hx w (List.mem_of_getElem? hw)
    obtain ⟨n', hn'⟩ : ∃ n', n + 1 = n' + 2 := ⟨n - 1, by omega⟩
    have hin : ∀ m, pd.tx.call (n + 1) i__law_inner [w] m = .ok (.lst (blocksOf w)) m := fun m => by rw [hn']; exact law_inner_eq (sh_stmt hsw).1
    simp [hin, srcOf, forAll]
    refine SpS_for (fun q σ s => s = m' ∧ ∃ c x3, σ = [some (.ref j), some (.int c), some w, x3]) ⟨rfl, _, x3, rfl⟩ ?_ ?_
    · rintro q b σ s hb ⟨rfl, c, x3, rfl⟩
      refine SpS.gen fun N2 R2 hN2 hR2 => ?_
      obtain ⟨ys, rfl, _, _, hy⟩ := sh_blk hsw (List.mem_of_getElem? hb)
      try simp
      refine sp_count f (by omega) hy fun c2 => ?_
      try simp
      exact hN2 _ _ ⟨rfl, _, _, rfl⟩
    · rintro σ s ⟨rfl, c, x3, rfl⟩
      exact hN' _ _ ⟨rfl, _, _, _, rfl⟩
  · rintro σ s ⟨rfl, c, x2, x3, rfl⟩
    simp
    exact hQ _
theorem sp_first : ∀ (f j : Nat), f + 1 + j = 8 → ∀ {L : Nat} {m : M} {xs : List W} {place : List Nat} {within : Bool} {kind : Str} {before : Nat} {Q : W → M → Prop}, place.length = 2 * j → f + 4 ≤ L → xs.length ≤ 1000 → (∀ x ∈ xs, ∃ g, sh g x = true) →
    (∀ c : Nat, chkBlock (f + 1) xs place within kind before = .ok c → Q (.tup [.non, .int (c : Int)]) m) → (∀ (p : List Nat) (c : Nat), chkBlock (f + 1) xs place within kind before = .error p → Q (.tup [pathW p, .int (c : Int)]) m) →
    Sp (pd.tx.call L i__law_first [.lst xs, pathW place, .int (before : Int)] m) Q := by
  intro f
  induction f using Nat.strongRecOn with
  | ind f ih =>
    intro j hj L m xs place within kind before Q hp hL hxl hx hok her
    obtain ⟨n, rfl⟩ : ∃ n, L = n + 2 := ⟨L - 2, by omega⟩
    rw [call_body (fi := f__law_first.fi) (us := [.lst xs, pathW place, .int (before : Int)]) rfl rfl]
    show Sp (asRes (evSs _ _ f__law_first.body [some (.lst xs), some (pathW place), some (.int (before : Int)), none, none, none, none, none, none] m)) _
    have hsr := srcR1_nat xs.length m (by omega)
    have hdep : ((2 * j : Nat) : Int) / 2 + 1 = 8 - (f : Int) := by omega
    obtain ⟨step, hstep⟩ : ∃ step : Nat → Nat → W → Except (List Nat) Nat, step = fun many i st => if i = 12 ∨ many = 80 ∨ isStmt st = false then .error (place ++ [i]) else if misplaced st ((place.length : Int) / 2 + 1) within kind = true then .error (place ++ [i]) else
      runX (fun many k b => chkBlock f ((lstW b).getD []) (place ++ [i, k]) (withinIn st within) (kindIn st kind) many) (many + 1) 0 (blocksOf st) := ⟨_, rfl⟩
    have hch : chkBlock (f + 1) xs place within kind before = runX step before 0 xs := by rw [hstep]; rfl
    rw [hch] at hok her
    simp [f__law_first, cl_c0, len_path, hp, MP.fdiv_int, hsr]
    refine SpS_for (fun k σ m' => m' = m ∧ ∃ (s : Nat) (x4 x5 x6 x7 x8 : Option W), runX step before 0 (xs.take k) = .ok s ∧ σ = [some (.lst xs), some (pathW place), some (.int (s : Int)), some (.int ((j : Int) + 1)), x4, x5, x6, x7, x8])
      ⟨rfl, before, none, none, none, none, none, by simp [runX], rfl⟩ ?_ ?_
    · rintro k w σ m' hw ⟨rfl, s, x4, x5, x6, x7, x8, hs, rfl⟩
      refine SpS.gen fun N' R' hN' hR' => ?_
      have hk : k < xs.length := by
        have := (List.getElem?_eq_some_iff.mp hw).1
        simpa using this
      have hwk : w = .int (k : Int) := by
        rw [List.getElem?_map, List.getElem?_range hk] at hw
        exact (Option.some.inj hw).symm
      subst hwk
      have hat : atI xs (k : Int) = some xs[k] := by rw [MP.atI_nat, List.getElem?_eq_getElem hk]
      obtain ⟨g, hg⟩ := hx xs[k] (List.getElem_mem hk)
      obtain ⟨q1, q2, q3⟩ := sh_stmt hg
      obtain ⟨n', hn'⟩ : ∃ n', n + 1 = n' + 2 := ⟨n - 1, by omega⟩
      have hin : ∀ m, pd.tx.call (n + 1) i__law_inner [xs[k]] m = .ok (.lst (blocksOf xs[k])) m := fun m => by rw [hn']; exact law_inner_eq q1
      have hpa := fun m => path_add true place k m (by omega)
      have hmis := mis_free (d := (place.length : Int) / 2 + 1) (within := within) (kind := kind) q3
      have hd8 : (place.length : Int) / 2 + 1 = 8 - (f : Int) := by rw [hp]; exact hdep
      rw [hd8] at hmis
      have hsplit : xs = xs.take k ++ xs[k] :: xs.drop (k + 1) := by rw [List.getElem_cons_drop hk, List.take_append_drop]
      have hlt : (xs.take k).length = k := by rw [List.length_take]; omega
      have hrun : runX step before 0 xs = match step s k xs[k] with
          | .ok s' => runX step s' (k + 1) (xs.drop (k + 1))
          | .error e => .error e := by
        conv => lhs; rw [hsplit]
        rw [runX_app, hs]
        simp only [hlt, Nat.zero_add, runX]
        cases step s k xs[k] <;> rfl
      have herr : ∀ e, step s k xs[k] = .error e → runX step before 0 xs = .error e := fun e he => by rw [hrun, he]
      have hnext : ∀ s', step s k xs[k] = .ok s' → runX step before 0 (xs.take (k + 1)) = .ok s' := fun s' he => by
        rw [List.take_succ_eq_append_getElem hk, runX_app, hs]
        simp only [hlt, Nat.zero_add, runX, he]
      simp [hat, hin, hpa, -List.getElem?_eq_getElem]
      have hsplit2 : ((k : Int) = 12 ∨ (s : Int) = 80 ∨ (j : Int) + 1 = 8 ∧ 0 < (blocksOf xs[k]).length) ↔ (k = 12 ∨ s = 80 ∨ f = 0 ∧ 0 < (blocksOf xs[k]).length) := by omega
      by_cases hbad : k = 12 ∨ s = 80 ∨ f = 0 ∧ 0 < (blocksOf xs[k]).length
      · rw [if_pos (hsplit2.mpr hbad)]
        refine hR' _ _ (her (place ++ [k]) s (herr _ ?_))
        rw [hstep]
        simp only [hd8, hmis]
        by_cases h1 : k = 12 ∨ s = 80 ∨ isStmt xs[k] = false
        · rw [if_pos h1]
        · rw [if_neg h1, if_pos]
          rcases hbad with h | h | ⟨h, h'⟩
          · exact absurd (.inl h) h1
          · exact absurd (.inr (.inl h)) h1
          · subst h
            have : blocksOf xs[k] ≠ [] := by
              intro z; rw [z] at h'; simp at h'
            simpa using this
      · rw [if_neg fun z => hbad (hsplit2.mp z)]
        have hst0 : step s k xs[k] = runX (fun many q b => chkBlock f ((lstW b).getD []) (place ++ [k, q]) (withinIn xs[k] within) (kindIn xs[k] kind) many) (s + 1) 0 (blocksOf xs[k]) := by
          rw [hstep]
          simp only [hd8, hmis]
          rw [if_neg (by rw [q1]; simp; exact ⟨fun z => hbad (.inl z), fun z => hbad (.inr (.inl z))⟩), if_neg]
          simp
          intro h8
          have hf0 : f = 0 := by omega
          by_cases hb : blocksOf xs[k] = []
          · exact hb
          · exact absurd (.inr (.inr ⟨hf0, List.length_pos_iff.mpr hb⟩)) hbad
        have hbl := blocks_len q1
        generalize hin2 : (fun (many q : Nat) (b : W) => chkBlock f ((lstW b).getD []) (place ++ [k, q]) (withinIn xs[k] within) (kindIn xs[k] kind) many) = inner at hst0
        rw [srcR1_nat (blocksOf xs[k]).length m' (by omega)]
        simp
        refine SpS_for (fun q σ s' => s' = m' ∧ ∃ (c : Nat) (x7 x8 : Option W), runX inner (s + 1) 0 ((blocksOf xs[k]).take q) = .ok c ∧ σ = [some (.lst xs), some (pathW place), some (.int (c : Int)), some (.int ((j : Int) + 1)), some (.int (k : Int)), some (pathW (place ++ [k])), some (.lst (blocksOf xs[k])), x7, x8])
          ⟨rfl, s + 1, x7, x8, by simp [runX], by simp⟩ ?_ ?_
        · rintro q w σ s' hw2 ⟨rfl, c, x7, x8, hc, rfl⟩
          refine SpS.gen fun N2 R2 hN2 hR2 => ?_
          have hq : q < (blocksOf xs[k]).length := by
            have := (List.getElem?_eq_some_iff.mp hw2).1
            simpa using this
          have hwq : w = .int (q : Int) := by
            rw [List.getElem?_map, List.getElem?_range hq] at hw2
            exact (Option.some.inj hw2).symm
          subst hwq
          have hatq : atI (blocksOf xs[k]) (q : Int) = some (blocksOf xs[k])[q] := by rw [MP.atI_nat, List.getElem?_eq_getElem hq]
          have hpq := fun m => path_add true (place ++ [k]) q m (by simp; omega)
          obtain ⟨f', rfl⟩ : ∃ f', f = f' + 1 := ⟨f - 1, by
            have : f ≠ 0 := fun z => hbad (.inr (.inr ⟨z, by omega⟩))
            omega⟩
          have hbm : (blocksOf xs[k])[q] ∈ blocksOf xs[k] := List.getElem_mem hq
          obtain ⟨ys, eys, hyl, hy⟩ : ∃ ys, (blocksOf xs[k])[q] = .lst ys ∧ ys.length ≤ 100 ∧ ∀ y ∈ ys, ∃ g, sh g y = true := by
            cases g with
            | zero => simp [sh] at hg
            | succ g =>
              obtain ⟨ys, e, hl, _, hy⟩ := sh_blk hg hbm
              exact ⟨ys, e, hl, fun y hy' => ⟨g, hy y hy'⟩⟩
          have hsplit3 : blocksOf xs[k] = (blocksOf xs[k]).take q ++ (blocksOf xs[k])[q] :: (blocksOf xs[k]).drop (q + 1) := by rw [List.getElem_cons_drop hq, List.take_append_drop]
          have hlt2 : ((blocksOf xs[k]).take q).length = q := by rw [List.length_take]; omega
          have hrun2 : runX inner (s + 1) 0 (blocksOf xs[k]) = match inner c q (blocksOf xs[k])[q] with
              | .ok s' => runX inner s' (q + 1) ((blocksOf xs[k]).drop (q + 1))
              | .error e => .error e := by
            conv => lhs; rw [hsplit3]
            rw [runX_app, hc]
            simp only [hlt2, Nat.zero_add, runX]
            cases inner c q (blocksOf xs[k])[q] <;> rfl
          have hnext2 : ∀ s', inner c q (blocksOf xs[k])[q] = .ok s' → runX inner (s + 1) 0 ((blocksOf xs[k]).take (q + 1)) = .ok s' := fun s' he => by
            rw [List.take_succ_eq_append_getElem hq, runX_app, hc]
            simp only [hlt2, Nat.zero_add, runX, he]
          have hinn : inner c q (blocksOf xs[k])[q] = chkBlock (f' + 1) ys (place ++ [k] ++ [q]) (withinIn xs[k] within) (kindIn xs[k] kind) c := by
            rw [← hin2, eys]
            simp [lstW]
          rw [eys] at hatq
          simp [hatq, hpq, -List.append_assoc]
          refine ih f' (by omega) (j + 1) (by omega) (within := withinIn xs[k] within) (kind := kindIn xs[k] kind) (by simp; omega) (by omega) (by omega) hy ?_ ?_
          · intro c2 h2
            simp
            exact hN2 _ _ ⟨rfl, c2, _, _, hnext2 _ (hinn.trans h2), rfl⟩
          · intro p c2 h2
            simp [pathW]
            refine hR2 _ _ (hR' _ _ (her p c2 (herr _ ?_)))
            rw [hst0, hrun2, hinn, h2]
        · rintro σ s' ⟨rfl, c, x7, x8, hc, rfl⟩
          refine hN' _ _ ⟨rfl, c, _, _, _, _, _, hnext c ?_, rfl⟩
          rw [hst0]
          simpa using hc
    · rintro σ s ⟨rfl, c, x4, x5, x6, x7, x8, hs, rfl⟩
      simp
      refine hok c ?_
      simpa using hs
end MPT
end

section
set_option maxHeartbeats 4000000
/-! K07e: steps of the law; the paths of a check. -/
namespace MPT
open PySem PySem.Spec PyProof.Rows L2 MP

theorem append_ref {m : M} {j : Nat} {xs : List W} {y : W} (h : m[j]? = some (some (.lst xs))) (hl : xs.length ≤ 100000) : bmSem .append (.ref j) [y] m = .ok .non (m.set j (some (.lst (xs ++ [y])))) := by
  simp only [bmSem, appendSem, h]
  rw [if_pos (by rw [sizeLine_eq]; omega)]
  simp [setO]
theorem tyOk_ref {m : M} {j : Nat} {xs : List W} (h : m[j]? = some (some (.lst xs))) : tyOk "list" (.ref j) m = true := by
  simp [tyOk, rdL, h]
theorem len_ref {m : M} {j : Nat} {xs : List W} (h : m[j]? = some (some (.lst xs))) : lenSem (.ref j) m = .ok (.int xs.length) m := by
  simp [lenSem, rdL, h]
theorem Later.setHi {i j : Nat} {u v : Int} {a b : M} {o : Option O} (h : Later i u v a b) (hj : a.length ≤ j) (hi : i < a.length) : Later i u v a (b.set j o) := by
  obtain ⟨h1, h2, xs, p, q, c, d, ok, hm⟩ := h
  refine ⟨by rw [List.length_set]; exact h1, fun k hk hki => ?_, xs, p, q, c, d, ok, ?_⟩
  · rw [List.getElem?_set_ne (by omega)]; exact h2 k hk hki
  · rw [List.getElem?_set_ne (by omega)]; exact hm
theorem Later.get {i j : Nat} {u v : Int} {m m' : M} {x : Option O} (l : Later i u v m m') (h : m[j]? = some x) (hj : j ≠ i) : m'[j]? = some x := by
  rw [l.2.1 j (lt_of_get h) hj]; exact h
theorem sp_append {j : Nat} {xs : List W} {y : W} {m : M} {Q : W → M → Prop} (h : m[j]? = some (some (.lst xs))) (hl : xs.length ≤ 100000) (hQ : (m.set j (some (.lst (xs ++ [y]))))[j]? = some (some (.lst (xs ++ [y]))) → Q .non (m.set j (some (.lst (xs ++ [y]))))) : Sp (bmSem .append (.ref j) [y] m) Q :=
  ⟨_, _, append_ref h hl, hQ (List.getElem?_set_self (lt_of_get h))⟩
theorem frz_ref {m : M} {j : Nat} {xs : List W} (h : m[j]? = some (some (.lst xs))) : frzSem (.ref j) m = .ok (.lst xs) (m.set j none) := by
  simp only [frzSem, h]
theorem add_ref {m : M} {j : Nat} {xs ys : List W} (h : m[j]? = some (some (.lst xs))) (hl : xs.length + ys.length ≤ 1000) : binSem true .add (.ref j) (.lst ys) m = .ok (.lst (xs ++ ys)) m := by
  have h' : (xs ++ ys).length ≤ 1000 := by rw [List.length_append]; exact hl
  simp [binSem, addSem, lstOf, h, hl]
theorem runX_err {S E : Type} (step : S → Nat → W → Except E S) {e : E} : ∀ (xs : List W) (s : S) (k : Nat), runX step s k xs = .error e → ∃ s' i x, i < k + xs.length ∧ x ∈ xs ∧ step s' i x = .error e
  | [], s, k, h => by simp [runX] at h
  | x :: xs, s, k, h => by
    simp only [runX] at h
    cases hs : step s k x with
    | ok s' =>
      rw [hs] at h
      obtain ⟨s2, i, y, h1, h2, h3⟩ := runX_err step xs s' (k + 1) h
      exact ⟨s2, i, y, by simp; omega, List.mem_cons_of_mem _ h2, h3⟩
    | error e' =>
      rw [hs] at h
      cases h
      exact ⟨s, k, x, by simp, List.mem_cons_self .., hs⟩
theorem chk_path : ∀ (f : Nat) {xs : List W} {place p : List Nat} {within : Bool} {kind : Str} {before : Nat}, xs.length ≤ 100 → (∀ x ∈ xs, ∃ g, sh g x = true) → chkBlock f xs place within kind before = .error p → (∀ k ∈ place, k < 1000) →
    p.length ≤ place.length + 2 * f ∧ ∀ k ∈ p, k < 1000
  | 0, _, _, _, _, _, _, _, _, h, _ => by simp [chkBlock] at h
  | f + 1, xs, place, p, within, kind, before, hl, hx, h, hp => by
    unfold chkBlock at h
    obtain ⟨s', i, x, hi, hxm, h⟩ := runX_err _ _ _ _ h
    have hs : ∀ k ∈ place ++ [i], k < 1000 := by
      intro k hk
      rcases List.mem_append.mp hk with hk | hk
      · exact hp k hk
      · rw [List.mem_singleton.mp hk]; omega
    split at h
    · cases h
      exact ⟨by simp; omega, hs⟩
    · split at h
      · cases h
        exact ⟨by simp; omega, hs⟩
      · obtain ⟨s2, q, b, hq, hbm, h⟩ := runX_err _ _ _ _ h
        obtain ⟨g, hg⟩ := hx x hxm
        have hbl := blocks_len (sh_stmt hg).1
        cases g with
        | zero => simp [sh] at hg
        | succ g =>
          obtain ⟨ys, e, hyl, _, hy⟩ := sh_blk hg hbm
          subst e
          have := chk_path f (xs := ys) (place := place ++ [i, q]) (by omega) (fun y hy' => ⟨g, hy y hy'⟩) h (by
            intro k hk
            rw [show place ++ [i, q] = place ++ [i] ++ [q] by simp] at hk
            rcases List.mem_append.mp hk with hk | hk
            · exact hs k hk
            · rw [List.mem_singleton.mp hk]; omega)
          refine ⟨?_, this.2⟩
          have h1 := this.1
          simp at h1
          omega
theorem log2_lt {n k : Nat} (h : n < 2 ^ k) (hk : 0 < k) : n.log2 < k := by
  by_cases h0 : n = 0
  · subst h0; simpa using hk
  · exact (Nat.log2_lt h0).mpr h
theorem Pu_num {j : Int} (h0 : 0 ≤ j) (h1 : j < 1000) : Pu (.int j) = true := by
  simp only [Pu, decide_eq_true_eq]
  have : j.natAbs < 2 ^ 10 := by
    have : (2 : Nat) ^ 10 = 1024 := rfl
    omega
  have := log2_lt this (by decide)
  omega
theorem pu_path {p : List Nat} (hl : p.length ≤ 1000) (h : ∀ k ∈ p, k < 1000) : Pu (pathW p) = true := by
  refine Pu_tup (by simpa using hl) fun x hx => ?_
  obtain ⟨k, hk, rfl⟩ := List.mem_map.mp hx
  exact Pu_num (by omega) (by have := h k hk; omega)
theorem dep_path (p : List Nat) : dep (pathW p) ≤ 1 := by
  have : ∀ q : List Nat, deps (q.map fun (k : Nat) => W.int (k : Int)) = 0 := by
    intro q
    induction q with
    | nil => rfl
    | cons a q ih => simp only [List.map_cons, deps, ih, dep]; rfl
  simp only [pathW, dep, this]; omega
theorem same_path {L : Nat} {m : M} {p : List Nat} (hl : p.length ≤ 1000) (h : ∀ k ∈ p, k < 1000) (hL : 10 ≤ L) : pd.tx.call L i__law_same [pathW p, pathW p] m = .ok (.bl true) m :=
  same_refl 1 (dep_path p) (pu_path hl h) (by omega)
theorem sh_pu {xs : List W} (h : ∀ x ∈ xs, sh 12 x = true) (hl : xs.length ≤ 100) : Pu (.lst xs) = true := Pu_lst (by omega) fun x hx => (sh_stmt (h x hx)).2.1
end MPT
end

section
set_option maxHeartbeats 4000000
/-! K07p: the law of limits. -/
namespace MPT
open PySem PySem.Spec PyProof.Rows L2 MP

abbrev lawD : Nat := 0 + 100
abbrev lawHs : List HS := [(HS.asg 8 (.tup (HEs.cons (.hf a_path) (HEs.cons (.int 0) HEs.nil))))]
theorem try_prog (a b c d e f g h i j : Option W) (v : W) (m : M) : tryAsR pd.tx.xn k_NoProgram 10 lawHs (.ex [a, b, c, d, e, f, g, h, i, j, none] k_NoProgram [(a_path, v)] m) = .nx [a, b, c, d, e, f, g, h, some (.tup [v, .int 0]), j, none] m := by
  kernel_rfl
def lawR1 : Ss := match f_law.body with
  | .cons _ (.cons _ (.cons _ (.cons _ (.cons _ r)))) => r
  | x => x
def lawB1 : Ss := match lawR1 with
  | .cons (.for_ _ _ b) _ => b
  | x => x
def lawB1b : Ss := match lawB1 with
  | .cons _ (.cons _ r) => r
  | x => x
def lawR2 : Ss := match lawR1 with
  | .cons _ r => r
  | x => x
def lawR3 : Ss := match lawR2 with
  | .cons _ r => r
  | x => x
theorem SpS_cut {cl : Cl} {xn : Xn} {s s2 : S} {ss : Ss} {σ : Sl} {m : M} {N : Sl → M → Prop} {R : W → M → Prop} (h : SpS (evS cl xn s σ m) (fun σ m => SpS (evSs cl xn (.cons s2 ss) σ m) N R) R) : SpS (evSs cl xn (.cons s (.cons s2 ss)) σ m) N R := by
  simp only [evSs_two, sSeq_eq]
  simpa using h
/-- the block so far -/
def Blk (m0 : M) (j : Nat) (xs : List W) (m : M) : Prop := m[j]? = some (some (.lst xs)) ∧ (∀ x ∈ xs, sh 12 x = true) ∧ xs.length ≤ 13 ∧ Later 0 0 0 m0 m ∧ m0.length ≤ j
theorem Blk.lat {m0 m m' : M} {j : Nat} {xs : List W} (h : Blk m0 j xs m) (h0 : 0 < m0.length) (l : Later 0 0 0 m m') : Blk m0 j xs m' :=
  ⟨l.get h.1 (by have := h.2.2.2.2; omega), h.2.1, h.2.2.1, h.2.2.2.1.trans l, h.2.2.2.2⟩
theorem Blk.app {m0 m : M} {j : Nat} {xs : List W} {y : W} {Q : W → M → Prop} (h : Blk m0 j xs m) (h0 : 0 < m0.length) (hy : sh 12 y = true) (hl : xs.length ≤ 12) (hQ : ∀ m', Blk m0 j (xs ++ [y]) m' → Q .non m') : Sp (bmSem .append (.ref j) [y] m) Q :=
  sp_append h.1 (by omega) fun hs => hQ _ ⟨hs, fun x hx => by
    rcases List.mem_append.mp hx with hx | hx
    · exact h.2.1 x hx
    · rw [List.mem_singleton.mp hx]; exact hy, by simp; omega, h.2.2.2.1.setHi h.2.2.2.2 h0, h.2.2.2.2⟩
section
variable {n j : Nat} {m0 : M} {ns : List Int} {b : Bool} {N : Nat}
theorem law_r3 {m : M} {xs : List W} {Q : W → M → Prop} (x5 x6 : Option W) (hb : Blk m0 j xs m) (hQ : ∀ m, Q (.bl true) m) :
    SpS (evSs (CL (n + 98)) pd.tx.xn lawR3 [some (.kl (ns.map W.int)), some (.ref 0), some (.ref j), some (.bl b), some (.int (N : Int)), x5, x6, none, none, none, none] m) (fun _ m => Q .non m) Q := by
  refine SpS.gen fun N2 Q2 hN2 hQ2 => ?_
  have hm := hb.1
  have hx := hb.2.1
  have hl := hb.2.2.1
  simp [lawR3, lawR2, lawR1, f_law, cl_c0, sFrz, hm]
  generalize m.set j none = m1
  have hpu := sh_pu hx (by omega)
  have hxe : ∀ x ∈ xs, ∃ g, sh g x = true := fun x h => ⟨12, hx x h⟩
  have hsame0 : ∀ m, pd.tx.call (n + 98 + 1) i__law_same [.tup [], .tup []] m = .ok (.bl true) m := fun m => same_path (p := []) (by simp) (by simp) (by omega)
  have hsame : ∀ (p : List Nat) (c : Nat), chkBlock 8 xs [] false "top" 0 = .error p → ∀ m, pd.tx.call (n + 98 + 1) i__law_same [pathW p, pathW p] m = .ok (.bl true) m := by
    intro p c hc m
    have := chk_path 8 (by omega) hxe hc (by simp)
    have h1 := this.1
    simp at h1
    exact same_path (by omega) this.2 (by omega)
  have fin : ∀ (d : W), (12 < xs.length → d = .tup [.tup [], .int 0]) → (xs.length ≤ 12 → (∃ c : Nat, chkBlock 8 xs [] false "top" 0 = .ok c ∧ d = .tup [.non, .int (c : Int)]) ∨ ∃ (p : List Nat) (c : Nat), chkBlock 8 xs [] false "top" 0 = .error p ∧ d = .tup [pathW p, .int (c : Int)]) →
      SpS (evSs (CL (n + 98)) pd.tx.xn (match lawR3 with
        | .cons _ (.cons _ r) => r
        | x => x) [some (.kl (ns.map W.int)), some (.ref 0), some (.lst xs), some (.bl b), some (.int (N : Int)), x5, x6, some d, none, none, none] m1) N2 Q2 := by
    intro d h1 h2
    by_cases h12 : 12 < xs.length
    · obtain rfl := h1 h12
      have hin := init_short (n := n + 96) (m := m1) (w := .lst xs) (Pu.dat m1 hpu) (by simpa [lstW] using h12)
      have e1 : makeSem k_Program (pd.tx.call (n + 98) i_Program___init__) [.lst xs] m1 = .exc k_NoProgram [(a_path, pathW [])] (m1 ++ [some (.ins k_Program [])]) := by
        rw [makeSem_eq]
        rw [show n + 96 + 2 = n + 98 by omega] at hin
        rw [hin]; rfl
      simp [lawR3, lawR2, lawR1, f_law, cl_c0, make_eq, e1]
      rw [try_prog]
      simp [pathW, hsame0]
      exact hQ2 _ _ (hQ _)
    · rcases h2 (by omega) with ⟨c, hc, rfl⟩ | ⟨p, c, hc, rfl⟩
      · obtain ⟨hg, hcn, hle⟩ := chk_gB 8 0 rfl (b := .lst xs) (xs := xs) (place := []) rfl (by omega) rfl hxe hc
        have hle := hle (by omega)
        have hsz := sh_rsz 8 hg rfl hxe hpu
        have hcn : cntB 8 (.lst xs) = c := by omega
        rw [hcn] at hsz
        obtain ⟨w, m2, e1, rfl, lp, P⟩ := sp_make (L := n + 98) (m := m1) (Q := fun w m' => w = .ref m1.length ∧ ∃ lp, PrgAt m' m1.length xs lp) (by omega) hg hpu (by omega) (by omega) (fun m' lp h1 h2 P => ⟨rfl, lp, P⟩)
        have hrl : (rowsB 8 (.lst xs) []).length = c := by rw [rows_len]; exact hcn
        have hlen : pd.tx.call (n + 98) i_Program___len__ [.ref m1.length] m2 = .ok (.int (c : Int)) m2 := by
          have := len_eq (n := n + 96) P
          rw [hrl] at this
          exact this
        simp [lawR3, lawR2, lawR1, f_law, cl_c0, make_eq, e1, prg_own P (n := n + 98) (fi := a___len__) (idx := i_Program___len__) rfl, hlen, asLen_nat c m2 (by omega), tryAsR]
        exact hQ2 _ _ (hQ _)
      · obtain ⟨J, hJ⟩ := init_bad (n := n + 18) (m := m1) (w := .lst xs) (Pu.dat m1 hpu) rfl (by omega) hc
        have e1 : makeSem k_Program (pd.tx.call (n + 98) i_Program___init__) [.lst xs] m1 = .exc k_NoProgram [(a_path, pathW p)] (m1 ++ J) := by
          rw [makeSem_eq]
          rw [show n + 18 + 80 = n + 98 by omega] at hJ
          rw [hJ]; rfl
        simp [lawR3, lawR2, lawR1, f_law, cl_c0, make_eq, e1]
        rw [try_prog]
        have := hsame p c hc
        have hnn : MP.isNon (pathW p) = false := rfl
        simp [hnn, this]
        exact hQ2 _ _ (hQ _)
  refine sp_first 7 0 rfl (L := n + 98 + 1) (m := m1) (xs := xs) (place := []) (within := false) (kind := "top") (before := 0) rfl (by omega) (by omega) hxe ?_ ?_
  · intro c hc
    by_cases h12 : 12 < xs.length
    · have h12' : (12 : Int) < xs.length := by omega
      simp [h12']
      simpa [lawR3, lawR2, lawR1, f_law, cl_c0] using fin (.tup [.tup [], .int 0]) (fun _ => rfl) (fun z => by omega)
    · have h12' : ¬ (12 : Int) < xs.length := by omega
      simp [h12']
      simpa [lawR3, lawR2, lawR1, f_law, cl_c0] using fin (.tup [.non, .int (c : Int)]) (fun z => by omega) (fun _ => .inl ⟨c, hc, rfl⟩)
  · intro p c hc
    by_cases h12 : 12 < xs.length
    · have h12' : (12 : Int) < xs.length := by omega
      simp [h12']
      simpa [lawR3, lawR2, lawR1, f_law, cl_c0] using fin (.tup [.tup [], .int 0]) (fun _ => rfl) (fun z => by omega)
    · have h12' : ¬ (12 : Int) < xs.length := by omega
      simp [h12']
      simpa [lawR3, lawR2, lawR1, f_law, cl_c0] using fin (.tup [pathW p, .int (c : Int)]) (fun z => by omega) (fun _ => .inr ⟨p, c, hc, rfl⟩)
theorem law_r2 {m : M} {xs : List W} {Q : W → M → Prop} (x5 x6 : Option W) (h0 : SrcAt m0 0 0 0) (hb : Blk m0 j xs m) (hQ : ∀ m, Q (.bl true) m) :
    SpS (evSs (CL (n + 98)) pd.tx.xn lawR2 [some (.kl (ns.map W.int)), some (.ref 0), some (.ref j), some (.bl b), some (.int (N : Int)), x5, x6, none, none, none, none] m) (fun _ m => Q .non m) Q := by
  have hpos := h0.lt
  refine SpS.gen fun N2 Q2 hN2 hQ2 => ?_
  rw [show lawR2 = .cons (match lawR2 with
    | .cons s _ => s
    | .nil => .pass) lawR3 from rfl]
  refine SpS_cut (s2 := _) (ss := _) ?_
  have hend : ∀ (x5 : Option W) (xs : List W) (m : M), Blk m0 j xs m → SpS (evSs (CL (n + 98)) pd.tx.xn lawR3 [some (.kl (ns.map W.int)), some (.ref 0), some (.ref j), some (.bl b), some (.int (N : Int)), x5, x6, none, none, none, none] m) N2 Q2 := fun x5 xs m hb => (law_r3 x5 x6 hb hQ).mono (fun σ m h => hN2 _ _ h) (fun w m h => hQ2 _ _ h)
  refine SpS.join (fun σ m => ∃ x5 xs, Blk m0 j xs m ∧ σ = [some (.kl (ns.map W.int)), some (.ref 0), some (.ref j), some (.bl b), some (.int (N : Int)), x5, x6, none, none, none, none]) ?_ ?_
  · refine SpS.gen fun N3 R3 hN3 hR3 => ?_
    simp [lawR2, lawR1, f_law, cl_c0]
    refine sp_draw hb.2.2.2.1.2.2 (by omega) (by omega) (by omega) fun e1 m2 a2 b2 l2 => ?_
    have hb := hb.lat hpos l2
    have h6 := mul_r true e1 6 m2 (by omega)
    have hb1 := mul_r true (e1 * 6) (if b = true then 1 else 0) m2 (by split <;> omega)
    obtain ⟨k, hk, hk'⟩ : ∃ k : Nat, e1 * 6 * (if b = true then 1 else 0) = (k : Int) ∧ k ≤ 12 := by
      split
      · exact ⟨(e1 * 6).toNat, by omega, by omega⟩
      · exact ⟨0, by simp, by omega⟩
    rw [hk] at hb1
    have hsr := srcR1_nat k m2 (by omega)
    simp [h6, hb1, hsr]
    refine SpS_for (fun q σ m' => ∃ x5 xs, Blk m0 j xs m' ∧ σ = [some (.kl (ns.map W.int)), some (.ref 0), some (.ref j), some (.bl b), some (.int (N : Int)), x5, x6, none, none, none, none]) ⟨x5, xs, hb, rfl⟩ ?_ ?_
    · rintro q w σ m' hw ⟨x5, xs, hb, rfl⟩
      refine SpS.gen fun N' R' hN' hR' => ?_
      have hlr := len_ref hb.1
      simp [hlr]
      by_cases h12 : xs.length < 12
      · have h12' : (xs.length : Int) < 12 := by omega
        simp [h12']
        refine sp_countR (f := 11) hb.1 (by omega) (by omega) hb.2.1 fun c => ?_
        try simp
        refine sp_draw hb.2.2.2.1.2.2 (by omega) (by omega) (by omega) fun e3 m3 a3 b3 l3 => ?_
        have hb := hb.lat hpos l3
        try simp
        split
        · simp [tyOk_ref hb.1]
          refine hb.app hpos (by decide +kernel) (by omega) fun m4 hb4 => ?_
          exact hN' _ _ ⟨_, _, hb4, rfl⟩
        · exact hN' _ _ ⟨_, _, hb, rfl⟩
      · have h12' : ¬ (xs.length : Int) < 12 := by omega
        simp [h12']
        exact hN' _ _ ⟨_, _, hb, rfl⟩
    · rintro σ m' ⟨x5, xs, hb, rfl⟩
      exact hN3 _ _ ⟨_, _, hb, rfl⟩
  · rintro σ m ⟨x5, xs, hb, rfl⟩
    exact hend x5 xs m hb
theorem law_r1 {m : M} {xs : List W} {Q : W → M → Prop} (hN : N ≤ 14) (h0 : SrcAt m0 0 0 0) (hb : Blk m0 j xs m) (hQ : ∀ m, Q (.bl true) m) :
    SpS (evSs (CL (n + 98)) pd.tx.xn lawR1 [some (.kl (ns.map W.int)), some (.ref 0), some (.ref j), some (.bl b), some (.int (N : Int)), none, none, none, none, none, none] m) (fun _ m => Q .non m) Q := by
  have hpos := h0.lt
  refine SpS.gen fun N2 Q2 hN2 hQ2 => ?_
  rw [show lawR1 = .cons (match lawR1 with
    | .cons s _ => s
    | .nil => .pass) lawR2 from rfl]
  refine SpS_cut (s2 := _) (ss := _) ?_
  have hend : ∀ (x5 x6 : Option W) (xs : List W) (m : M), Blk m0 j xs m → SpS (evSs (CL (n + 98)) pd.tx.xn lawR2 [some (.kl (ns.map W.int)), some (.ref 0), some (.ref j), some (.bl b), some (.int (N : Int)), x5, x6, none, none, none, none] m) N2 Q2 := fun x5 x6 xs m hb => (law_r2 x5 x6 h0 hb hQ).mono (fun σ m h => hN2 _ _ h) (fun w m h => hQ2 _ _ h)
  have P6 := fun (k : Nat) (σ : Sl) (m : M) => ∃ x5 x6 xs, Blk m0 j xs m ∧ σ = [some (.kl (ns.map W.int)), some (.ref 0), some (.ref j), some (.bl b), some (.int (N : Int)), x5, x6, none, none, none, none]
  refine SpS.join (fun σ m => ∃ x5 x6 xs, Blk m0 j xs m ∧ σ = [some (.kl (ns.map W.int)), some (.ref 0), some (.ref j), some (.bl b), some (.int (N : Int)), x5, x6, none, none, none, none]) ?_ ?_
  · refine SpS.gen fun N3 R3 hN3 hR3 => ?_
    have hsr := srcR1_nat N m (by omega)
    show SpS (evS _ _ (.for_ (.nm 5) (Ie.rng1 (Es.cons (.var 4) Es.nil)) lawB1) _ _) _ _
    generalize hB : lawB1 = B1
    simp [hsr]
    refine SpS_for (fun q σ m' => ∃ x5 x6 xs, Blk m0 j xs m' ∧ σ = [some (.kl (ns.map W.int)), some (.ref 0), some (.ref j), some (.bl b), some (.int (N : Int)), x5, x6, none, none, none, none]) ⟨none, none, xs, hb, rfl⟩ ?_ ?_
    · rintro q w σ m' hw ⟨x5, x6, xs, hb, rfl⟩
      refine SpS.gen fun N' R' hN' hR' => ?_
      have tail : ∀ (x5 x6 : Option W) (xs : List W) (m : M), Blk m0 j xs m → SpS (evSs (CL (n + 98)) pd.tx.xn lawB1b [some (.kl (ns.map W.int)), some (.ref 0), some (.ref j), some (.bl b), some (.int (N : Int)), x5, x6, none, none, none, none] m) N' R' := by
        intro x5 x6 xs m hb
        simp [lawB1b, lawB1, lawR1, f_law, cl_c0]
        refine sp_draw hb.2.2.2.1.2.2 (by omega) (by omega) (by omega) fun e3 m3 a3 b3 l3 => ?_
        have hb := hb.lat hpos l3
        have hlr := len_ref hb.1
        have hsay : sh 12 (.tup [.str "say", .tup [.str "text", .str "a"]]) = true := by decide +kernel
        have done := hN' _ _ ⟨x5, x6, xs, hb, rfl⟩
        by_cases h3 : e3 = 0
        · subst h3
          simp [hlr]
          by_cases hlt : (xs.length : Int) < 13 - (if b = true then 1 else 0)
          · rw [if_pos hlt]
            simp [tyOk_ref hb.1]
            refine hb.app hpos hsay (by
              have : (if b = true then (1 : Int) else 0) ≥ 0 := by split <;> omega
              omega) fun m4 hb4 => ?_
            exact hN' _ _ ⟨_, _, _, hb4, rfl⟩
          · rw [if_neg hlt]
            exact done
        · simp [h3]
          exact done
      rw [← hB]
      rw [show lawB1 = .cons (match lawB1 with
        | .cons s _ => s
        | .nil => .pass) (.cons (match lawB1 with
        | .cons _ (.cons s _) => s
        | _ => .pass) lawB1b) from rfl]
      refine SpS_cut (s2 := _) (ss := _) ?_
      simp [lawB1, lawR1, f_law, cl_c0]
      refine sp_chain hb.2.2.2.1.2.2 (by omega) fun w2 m2 hw2 l2 => ?_
      have hb := hb.lat hpos l2
      have hlr := len_ref hb.1
      have hadd : binSem true .add (.ref j) (.lst [w2]) m2 = .ok (.lst (xs ++ [w2])) m2 := add_ref hb.1 (by have := hb.2.2.1; simp; omega)
      refine SpS_cut (s2 := _) (ss := _) ?_
      refine SpS.join (fun σ m => ∃ xs, Blk m0 j xs m ∧ σ = [some (.kl (ns.map W.int)), some (.ref 0), some (.ref j), some (.bl b), some (.int (N : Int)), some w, some w2, none, none, none, none]) ?_ ?_
      · refine SpS.gen fun N4 R4 hN4 hR4 => ?_
        have done := hN4 _ _ ⟨xs, hb, rfl⟩
        have app : xs.length ≤ 12 → Sp (bmSem .append (.ref j) [w2] m2) fun a m => N4 [some (.kl (ns.map W.int)), some (.ref 0), some (.ref j), some (.bl b), some (.int (N : Int)), some w, some w2, none, none, none, none] m := fun hl => hb.app hpos hw2 hl fun m4 hb4 => hN4 _ _ ⟨_, hb4, rfl⟩
        simp [hlr]
        by_cases hlt : (xs.length : Int) < 13 - (if b = true then 1 else 0)
        · rw [if_pos hlt]
          have hl12 : xs.length ≤ 12 := by
            have : (if b = true then (1 : Int) else 0) ≥ 0 := by split <;> omega
            omega
          cases b with
          | false =>
            simp [tyOk_ref hb.1]
            exact app hl12
          | true =>
            simp [hadd]
            refine sp_count 12 (by omega) (by
              intro x hx
              rcases List.mem_append.mp hx with hx | hx
              · exact hb.2.1 x hx
              · rw [List.mem_singleton.mp hx]; exact hw2) fun c => ?_
            try simp
            split
            · simp [tyOk_ref hb.1]
              exact app hl12
            · exact done
        · rw [if_neg hlt]
          exact done
      · rintro σ m ⟨xs, hb, rfl⟩
        exact tail (some w) (some w2) xs m hb
    · rintro σ m' ⟨x5, x6, xs, hb, rfl⟩
      exact hN3 _ _ ⟨_, _, _, hb, rfl⟩
  · rintro σ m ⟨x5, x6, xs, hb, rfl⟩
    exact hend x5 x6 xs m hb
end
theorem law_sp (n : Nat) (ns : List Int) (hl : ns.length ≤ 63) : Sp (pd.tx.call (n + 100) i_law [.kl (ns.map W.int)] []) fun w _ => w = .bl true := by
  rw [show n + 100 = n + 98 + 2 by omega, call_body (fi := f_law.fi) (us := [.kl (ns.map W.int)]) rfl rfl]
  show Sp (asRes (evSs (CL (n + 98)) pd.tx.xn f_law.body [some (.kl (ns.map W.int)), none, none, none, none, none, none, none, none, none, none] [])) _
  have hs0 := source_eq (n := n + 97) (m := []) (u := 0) (v := 0) hl
  have hs0 : pd.tx.call (n + 98 + 1) i__law_source [.kl (ns.map W.int), .int 0, .int 0] [] = .ok (.ref 0) ([] ++ [some (.lst (srcL ns 0 0 1 0 0 0))]) := hs0
  have hsrc := source_src (m := []) (ns := ns) (u := 0) (v := 0)
  generalize ([] : M) ++ [some (O.lst (srcL ns 0 0 1 0 0 0))] = m0 at hs0 hsrc
  have hsrc : SrcAt m0 0 0 0 := hsrc
  refine Sp.gen fun Q hQ => ?_
  have fin : ∀ (j N : Nat) (b : Bool) (xs : List W) (m : M), N ≤ 14 → Blk m0 j xs m → SpS (evSs (CL (n + 98)) pd.tx.xn lawR1 [some (.kl (ns.map W.int)), some (.ref 0), some (.ref j), some (.bl b), some (.int (N : Int)), none, none, none, none, none, none] m) (fun _ m => Q .non m) Q :=
    fun j N b xs m hN hb => law_r1 (n := n) (ns := ns) (b := b) (Q := Q) hN hsrc hb fun m => hQ _ _ rfl
  rw [Sp_asRes]
  rw [show f_law.body = .cons (match f_law.body with
    | .cons s _ => s
    | .nil => .pass) (.cons (match f_law.body with
    | .cons _ (.cons s _) => s
    | _ => .pass) (.cons (match f_law.body with
    | .cons _ (.cons _ (.cons s _)) => s
    | _ => .pass) (.cons (match f_law.body with
    | .cons _ (.cons _ (.cons _ (.cons s _))) => s
    | _ => .pass) (.cons (match f_law.body with
    | .cons _ (.cons _ (.cons _ (.cons _ (.cons s _)))) => s
    | _ => .pass) lawR1)))) from rfl]
  refine SpS_cut (s2 := _) (ss := _) ?_
  simp [f_law, cl_c0, hs0, -mkLst_new, -evSs_two]
  refine SpS_cut (s2 := _) (ss := _) ?_
  simp [-mkLst_new, -evSs_two]
  refine sp_new0 (by simp) fun j m1 hj hj1 hk1 => ?_
  have hb : Blk m0 j [] m1 := ⟨hj1, by simp, by simp, ⟨by
    rcases Nat.lt_or_ge m1.length m0.length with z | z
    · have := hk1 _ z
      rw [List.getElem?_eq_getElem z, List.getElem?_eq_none (Nat.le_refl _)] at this
      cases this
    · exact z, fun k hk _ => hk1 k hk, by
    obtain ⟨xs, p, q, c, d, ok, h⟩ := hsrc
    exact ⟨xs, p, q, c, d, ok, (hk1 0 (lt_of_get h)).trans h⟩⟩, hj⟩
  have hpos := hsrc.lt
  refine SpS_cut (s2 := _) (ss := _) ?_
  simp [-evSs_two, cl_c0]
  refine sp_draw hb.2.2.2.1.2.2 (by omega) (by omega) (by omega) fun e1 m2 a1 b1 l1 => ?_
  have hb := hb.lat hpos l1
  simp [-evSs_two]
  refine SpS_cut (s2 := _) (ss := _) ?_
  simp [-evSs_two, cl_c0]
  refine sp_draw hb.2.2.2.1.2.2 (by omega) (by omega) (by omega) fun e2 m3 a2 b2 l2 => ?_
  have hb := hb.lat hpos l2
  try simp [-evSs_two]
  refine sp_draw hb.2.2.2.1.2.2 (by omega) (by omega) (by omega) fun e3 m4 a3 b3 l3 => ?_
  have hb := hb.lat hpos l3
  obtain ⟨d, hd, hdm⟩ := at_mem (xs := [W.int 0, W.int 1, W.int 2, W.int 3, W.int 5, W.int 8, W.int 12, W.int 13, W.int e2]) (e := e3) a3 (by simp; omega)
  have hdI : ∃ dp : Nat, d = .int (dp : Int) ∧ dp ≤ 14 := by
    simp only [List.mem_cons, List.not_mem_nil, or_false] at hd
    rcases hd with rfl | rfl | rfl | rfl | rfl | rfl | rfl | rfl | rfl
    · exact ⟨0, rfl, by omega⟩
    · exact ⟨1, rfl, by omega⟩
    · exact ⟨2, rfl, by omega⟩
    · exact ⟨3, rfl, by omega⟩
    · exact ⟨5, rfl, by omega⟩
    · exact ⟨8, rfl, by omega⟩
    · exact ⟨12, rfl, by omega⟩
    · exact ⟨13, rfl, by omega⟩
    · exact ⟨e2.toNat, by rw [Int.toNat_of_nonneg a2], by omega⟩
  obtain ⟨N, rfl, hN⟩ := hdI
  simp [hdm, -evSs_two]
  refine SpS_cut (s2 := _) (ss := _) ?_
  refine SpS.join (fun σ m => ∃ (N : Nat), N ≤ 14 ∧ Blk m0 j [] m ∧ σ = [some (.kl (ns.map W.int)), some (.ref 0), some (.ref j), some (.bl (e1 == 1)), some (.int (N : Int)), none, none, none, none, none, none]) ?_ ?_
  · refine SpS.gen fun N4 R4 hN4 hR4 => ?_
    simp [cl_c0]
    split
    · refine sp_draw hb.2.2.2.1.2.2 (by omega) (by omega) (by omega) fun e5 m5 a5 b5 l5 => ?_
      have hb := hb.lat hpos l5
      obtain ⟨q, rfl⟩ : ∃ q : Nat, e5 = (q : Int) := ⟨e5.toNat, by omega⟩
      simp
      exact hN4 _ _ ⟨6 + q, by omega, hb, by simp⟩
    · exact hN4 _ _ ⟨N, hN, hb, rfl⟩
  · rintro σ m ⟨N, hN, hb, rfl⟩
    exact fin j N _ [] m hN hb
theorem lawH : ∀ ns : List Int, ns.length ≤ 63 → ∃ m, pd.tx.call lawD i_law [.kl (ns.map W.int)] [] = .ok (.bl true) m := by
  intro ns hl
  obtain ⟨w, m, e, rfl⟩ := law_sp 0 ns hl
  exact ⟨m, e⟩
end MPT
end

section
set_option maxHeartbeats 0
open PySem PySem.W PySem.Calls PyProof.Rows
set_option maxRecDepth 100000 in
set_option maxHeartbeats 0 in
theorem PySem.Challenge.cw_everyanswer_k07_whole_limits_holds : PySem.Challenge.rw_everyanswer_k07_whole_limits.Holds := by
  w_on; o_law
  refine HandSHeadRun.head_any (r := MPT.R) (q := view MPT.R.prog [54]) (H := MP.hookA MPT.asL MPT.pd) (ob := MP.obA MPT.asL MPT.pd) (M := 6000) (loose := MPT.loose) (d := HandSHeadRun.topDef MPT.R.prog 54) (kwd := []) (MP.obA_eq MPT.asL MPT.pd) (by kernel_rfl) (fun s => by kernel_rfl) (byRow2 "special-get-raises" MPT.run0 MPT.run1) (by kernel_rfl) (by kernel_rfl) (by kernel_rfl) (by rfl) (by first | assumption | decide +kernel) (by decide +kernel) ⟨rfl, rfl, rfl, rfl, rfl, by decide +kernel⟩ ?hw ?hc
  case hw => w_witness2
  case hc => exact MP.walk_P (l := PySem.Challenge.rw_everyanswer_k07_whole_limits) (n := 63) (d0 := MPT.lawD) (i := MPT.i_law) (p := MPT.pd) rfl (by decide) (by kernel_rfl) ⟨rfl, by decide, by decide⟩ (fun _ _ h => h) (by kernel_rfl) (by kernel_rfl) (by kernel_rfl) MPT.lawH
end
