import PyProof.Rows.All
import Wide.All
import OpenK.AllK
import Wide.FinOn
import KE.KStateDown
import Lean
import HandS.ForMost
import HandS.Exc
import HandS.ExcOwn
import HandS.TryOnly
import HandS.WordsExc
import HandS.Defaults
import HandS.Walk
import HandS.Conv
import HandS.IsInst
import HandS.TupAny
import HandS.Flow
import HandS.Deep
import HandS.Head0
import HandS.Head1
import HandS.Head2
import HandS.HeadEnd
import HandS.HeadHook1
import HandS.HeadHook2
import HandS.Style
import PyProof.FactsAll.dict
import HandS.HeadNt
import PyProof.ExcBaseAll.ValueError
import PySem.Challenge.RW_stepmarks_k01_names_situations_steps
set_option Elab.async false
set_option linter.all false
set_option maxRecDepth 100000
set_option maxHeartbeats 4000000
/-! Sm: a state-passing reading of the text: tuples are plain values, lists and dicts stand in a small heap of their own. -/
namespace Sm
open L2 PySem PySem.Spec

/-! ### values, objects, the small heap -/
inductive IV where
  | non | bl (b : Bool) | int (i : Int) | str (x : Str)
  | tup (xs : List IV)
  | rl (xs : List IV)
  | ref (a : Nat)
inductive IO where
  | lst (xs : List IV)
  | dct (kvs : List (IV × IV))
abbrev Hs := List IO

/-- a list that is only read -/
def RolA (K : PySem.W.Frag) (H : Hp) (a : Addr) (xs : List V) : Prop :=
  (∃ o, H a = some (.frz o (.lst xs))) ∨
    ∃ (o : Obj) (its : Array Value) (n : Nat), K.lookup a = some o ∧ o.cls = .type "list" ∧ o.dict = none ∧ o.data = .seq its n ∧ its.size ≤ sizeLine ∧ Vals xs its.toList
theorem RolA.sq {K : PySem.W.Frag} {H : Hp} {a : Addr} {xs : List V} (h : RolA K H a xs) : SqL K H a xs := by
  rcases h with ⟨o, h⟩ | h
  · exact .inl (.inr ⟨o, h⟩)
  · exact .inr h

mutual
inductive RV (K : PySem.W.Frag) (H : Hp) (r : List Addr) : IV → V → Prop where
  | non : RV K H r .non .non
  | bl (b : Bool) : RV K H r (.bl b) (.bl b)
  | int (i : Int) : RV K H r (.int i) (.int i)
  | str (x : Str) : RV K H r (.str x) (.str x)
  | tup {p : Addr} {vs : List V} {xs : List IV} : SqT K H p vs → RVs K H r xs vs → RV K H r (.tup xs) (.ref p)
  | rl {p : Addr} {vs : List V} {xs : List IV} : RolA K H p vs → RVs K H r xs vs → RV K H r (.rl xs) (.ref p)
  | ref {a : Nat} {p : Addr} : r[a]? = some p → RV K H r (.ref a) (.ref p)
inductive RVs (K : PySem.W.Frag) (H : Hp) (r : List Addr) : List IV → List V → Prop where
  | nil : RVs K H r [] []
  | cons {x : IV} {v : V} {xs : List IV} {vs : List V} : RV K H r x v → RVs K H r xs vs → RVs K H r (x :: xs) (v :: vs)
end

/-- an object of the small heap at an address -/
def RO (K : PySem.W.Frag) (H : Hp) (r : List Addr) : IO → Addr → Prop
  | .lst xs, p => ∃ vs, H p = some (.lst vs) ∧ RVs K H r xs vs
  | .dct kvs, p => kvs = [] ∧ H p = some (.dK [])

structure Mt (K : PySem.W.Frag) (H : Hp) (r : List Addr) (st : Hs) : Prop where
  len : r.length = st.length
  nd : r.Nodup
  at_ : ∀ (i : Nat) (o : IO) (p : Addr), st[i]? = some o → r[i]? = some p → RO K H r o p

/-- later: more addresses; what was tracked outside them stands as it was -/
structure Xt (r : List Addr) (H : Hp) (r' : List Addr) (H' : Hp) : Prop where
  pre : ∃ t, r' = r ++ t
  fr : ∀ p o, H p = some o → p ∉ r → H' p = some o ∧ p ∉ r'

theorem Xt.refl {r : List Addr} {H : Hp} : Xt r H r H := ⟨⟨[], by simp⟩, fun _ _ h n => ⟨h, n⟩⟩
theorem Xt.trans {r r1 r2 : List Addr} {H H1 H2 : Hp} (a : Xt r H r1 H1) (b : Xt r1 H1 r2 H2) : Xt r H r2 H2 := by
  obtain ⟨t, e⟩ := a.pre
  obtain ⟨u, e'⟩ := b.pre
  refine ⟨⟨t ++ u, by rw [e', e, List.append_assoc]⟩, fun p o h n => ?_⟩
  obtain ⟨h1, n1⟩ := a.fr p o h n
  exact b.fr p o h1 n1
theorem Xt.get {r r' : List Addr} {H H' : Hp} (x : Xt r H r' H') {a : Nat} {p : Addr} (h : r[a]? = some p) : r'[a]? = some p := by
  obtain ⟨t, e⟩ := x.pre
  rw [e, List.getElem?_append_left (List.getElem?_eq_some_iff.mp h).1]
  exact h

theorem RO.mut {K : PySem.W.Frag} {H : Hp} {r : List Addr} {o : IO} {p : Addr} (h : RO K H r o p) : Mut (H p) := by
  cases o with
  | lst xs =>
    obtain ⟨vs, e, _⟩ := h
    rw [e]; trivial
  | dct kvs =>
    obtain ⟨_, e⟩ := h
    rw [e]; trivial
theorem Mt.mut {K : PySem.W.Frag} {H : Hp} {r : List Addr} {st : Hs} (m : Mt K H r st) {p : Addr} (h : p ∈ r) : Mut (H p) := by
  obtain ⟨i, hi, e⟩ := List.getElem_of_mem h
  have hi' : i < st.length := by rw [← m.len]; exact hi
  exact (m.at_ i st[i] p (by simp [hi']) (by simp [hi, e])).mut
theorem Mt.out {K : PySem.W.Frag} {H : Hp} {r : List Addr} {st : Hs} (m : Mt K H r st) {p : Addr} {o : HO} (h : H p = some o) (n : ¬ Mut (some o)) : p ∉ r := fun hp => by
  have q := m.mut hp
  rw [h] at q
  exact n q
theorem Xt.sqT {K : PySem.W.Frag} {r r' : List Addr} {H H' : Hp} {st : Hs} (x : Xt r H r' H') (m : Mt K H r st) {p : Addr} {vs : List V} (h : SqT K H p vs) : SqT K H' p vs := by
  rcases h with (h | ⟨o, h⟩) | h
  · exact .inl (.inl (x.fr p _ h (m.out h fun z => z)).1)
  · exact .inl (.inr ⟨o, (x.fr p _ h (m.out h fun z => z)).1⟩)
  · exact .inr h

theorem Xt.rol {K : PySem.W.Frag} {r r' : List Addr} {H H' : Hp} {st : Hs} (x : Xt r H r' H') (m : Mt K H r st) {p : Addr} {vs : List V} (h : RolA K H p vs) : RolA K H' p vs := by
  rcases h with ⟨o, h⟩ | h
  · exact .inl ⟨o, (x.fr p _ h (m.out h fun z => z)).1⟩
  · exact .inr h

mutual
theorem RV.mono {K : PySem.W.Frag} {r r' : List Addr} {H H' : Hp} {st : Hs} (x : Xt r H r' H') (m : Mt K H r st) : ∀ {a : IV} {v : V}, RV K H r a v → RV K H' r' a v
  | _, _, .non => .non
  | _, _, .bl b => .bl b
  | _, _, .int i => .int i
  | _, _, .str y => .str y
  | _, _, .tup h hs => .tup (x.sqT m h) (RVs.mono x m hs)
  | _, _, .rl h hs => .rl (x.rol m h) (RVs.mono x m hs)
  | _, _, .ref h => .ref (x.get h)
theorem RVs.mono {K : PySem.W.Frag} {r r' : List Addr} {H H' : Hp} {st : Hs} (x : Xt r H r' H') (m : Mt K H r st) : ∀ {a : List IV} {v : List V}, RVs K H r a v → RVs K H' r' a v
  | _, _, .nil => .nil
  | _, _, .cons h hs => .cons (RV.mono x m h) (RVs.mono x m hs)
end

theorem RVs.length {K : PySem.W.Frag} {H : Hp} {r : List Addr} : ∀ {xs : List IV} {vs : List V}, RVs K H r xs vs → xs.length = vs.length
  | _, _, .nil => rfl
  | _, _, .cons _ h => congrArg Nat.succ h.length
theorem RVs.get {K : PySem.W.Frag} {H : Hp} {r : List Addr} : ∀ {xs : List IV} {vs : List V} {i : Nat} {x : IV}, RVs K H r xs vs → xs[i]? = some x → ∃ v, vs[i]? = some v ∧ RV K H r x v
  | _, _, _, _, .nil, e => by simp at e
  | _, _, 0, _, .cons h _, e => by simp at e; subst e; exact ⟨_, rfl, h⟩
  | _, _, i + 1, x, .cons _ h, e => by
    obtain ⟨v, h1, h2⟩ := RVs.get (i := i) (x := x) h (by simpa using e)
    exact ⟨v, by simpa using h1, h2⟩
theorem RVs.getV {K : PySem.W.Frag} {H : Hp} {r : List Addr} : ∀ {xs : List IV} {vs : List V} {i : Nat} {v : V}, RVs K H r xs vs → vs[i]? = some v → ∃ x, xs[i]? = some x ∧ RV K H r x v
  | _, _, _, _, .nil, e => by simp at e
  | _, _, 0, _, .cons h _, e => by simp at e; subst e; exact ⟨_, rfl, h⟩
  | _, _, i + 1, x, .cons _ h, e => by
    obtain ⟨v, h1, h2⟩ := RVs.getV (i := i) (v := x) h (by simpa using e)
    exact ⟨v, by simpa using h1, h2⟩
theorem RVs.append {K : PySem.W.Frag} {H : Hp} {r : List Addr} : ∀ {xs ys : List IV} {vs ws : List V}, RVs K H r xs vs → RVs K H r ys ws → RVs K H r (xs ++ ys) (vs ++ ws)
  | _, _, _, _, .nil, s => s
  | _, _, _, _, .cons h t, s => .cons h (RVs.append t s)
theorem RVs.set {K : PySem.W.Frag} {H : Hp} {r : List Addr} {x : IV} {v : V} (q : RV K H r x v) : ∀ {xs : List IV} {vs : List V} (i : Nat), RVs K H r xs vs → RVs K H r (xs.set i x) (vs.set i v)
  | _, _, _, .nil => .nil
  | _, _, 0, .cons _ t => .cons q t
  | _, _, i + 1, .cons p t => .cons p (RVs.set q i t)
theorem RVs.take {K : PySem.W.Frag} {H : Hp} {r : List Addr} : ∀ {xs : List IV} {vs : List V} (n : Nat), RVs K H r xs vs → RVs K H r (xs.take n) (vs.take n)
  | _, _, 0, _ => .nil
  | _, _, _ + 1, .nil => .nil
  | _, _, n + 1, .cons q t => .cons q (RVs.take n t)
theorem RVs.drop {K : PySem.W.Frag} {H : Hp} {r : List Addr} : ∀ {xs : List IV} {vs : List V} (n : Nat), RVs K H r xs vs → RVs K H r (xs.drop n) (vs.drop n)
  | _, _, 0, q => q
  | _, _, _ + 1, .nil => .nil
  | _, _, n + 1, .cons _ t => RVs.drop n t
theorem RVs.erase {K : PySem.W.Frag} {H : Hp} {r : List Addr} : ∀ {xs : List IV} {vs : List V} (n : Nat), RVs K H r xs vs → RVs K H r (xs.eraseIdx n) (vs.eraseIdx n)
  | _, _, _, .nil => .nil
  | _, _, 0, .cons _ t => t
  | _, _, n + 1, .cons q t => .cons q (RVs.erase n t)

theorem RO.mono {K : PySem.W.Frag} {r r' : List Addr} {H H' : Hp} {st : Hs} (x : Xt r H r' H') (m : Mt K H r st) {o : IO} {p : Addr} (h : RO K H r o p) (e : H' p = H p) : RO K H' r' o p := by
  cases o with
  | lst xs =>
    obtain ⟨vs, e1, h⟩ := h
    exact ⟨vs, e.trans e1, h.mono x m⟩
  | dct kvs => exact ⟨h.1, e.trans h.2⟩

/-- a new address beside, untracked by the small heap -/
theorem Xt.aside {r : List Addr} {H : Hp} {p : Addr} {o : HO} (n : H p = none) : Xt r H r (upd H p o) :=
  ⟨⟨[], by simp⟩, fun q u h hn => ⟨by rw [upd_ne (ne_of_none h n)]; exact h, hn⟩⟩
theorem Mt.aside {K : PySem.W.Frag} {H : Hp} {r : List Addr} {st : Hs} (m : Mt K H r st) {p : Addr} {o : HO} (n : H p = none) : Mt K (upd H p o) r st :=
  ⟨m.len, m.nd, fun i u q h1 h2 => (m.at_ i u q h1 h2).mono (Xt.aside n) m (upd_ne fun z => by
    have w := m.mut (List.mem_of_getElem? h2)
    rw [z, n] at w
    exact w)⟩
/-- a new object of the small heap -/
theorem Xt.new {r : List Addr} {H : Hp} {p : Addr} {o : HO} (n : H p = none) : Xt r H (r ++ [p]) (upd H p o) :=
  ⟨⟨[p], rfl⟩, fun q u h hn => ⟨by rw [upd_ne (ne_of_none h n)]; exact h, by
    rw [List.mem_append, List.mem_singleton]
    exact fun z => z.elim hn (ne_of_none h n)⟩⟩
theorem Mt.new {K : PySem.W.Frag} {H : Hp} {r : List Addr} {st : Hs} (m : Mt K H r st) {p : Addr} {o : HO} {u : IO} (n : H p = none) (h : RO K (upd H p o) (r ++ [p]) u p) : Mt K (upd H p o) (r ++ [p]) (st ++ [u]) := by
  have hp : p ∉ r := fun z => by
    have w := m.mut z
    rw [n] at w
    exact w
  refine ⟨by simp [m.len], List.nodup_append.mpr ⟨m.nd, by simp, fun a ha b hb => ?_⟩, fun i v q h1 h2 => ?_⟩
  · rw [List.mem_singleton] at hb
    subst hb
    intro z
    exact hp (z ▸ ha)
  · by_cases hi : i < st.length
    · rw [List.getElem?_append_left hi] at h1
      rw [List.getElem?_append_left (by rw [m.len]; exact hi)] at h2
      exact (m.at_ i v q h1 h2).mono (Xt.new n) m (upd_ne fun z => hp (z ▸ List.mem_of_getElem? h2))
    · have e : i = st.length := by
        have := (List.getElem?_eq_some_iff.mp h1).1
        simp at this
        omega
      subst e
      simp at h1
      rw [← m.len] at h2
      simp at h2
      subst h1 h2
      exact h
theorem RV.last {K : PySem.W.Frag} {H H' : Hp} {r : List Addr} {st : Hs} (m : Mt K H r st) {p : Addr} : RV K H' (r ++ [p]) (.ref st.length) (.ref p) := .ref (by rw [← m.len]; simp)
/-- an object of the small heap is written -/
theorem Xt.write {K : PySem.W.Frag} {H : Hp} {r : List Addr} {st : Hs} (_m : Mt K H r st) {a : Nat} {p : Addr} {o : HO} (hp : r[a]? = some p) : Xt r H r (upd H p o) :=
  ⟨⟨[], by simp⟩, fun q u h hn => ⟨by rw [upd_ne (b := q) (a := p) fun z => hn (by rw [z]; exact List.mem_of_getElem? hp)]; exact h, hn⟩⟩
theorem nodup_ad {N : List Addr} (hN : N.Nodup) {i j : Nat} {x : Addr} (a : N[i]? = some x) (b : N[j]? = some x) : i = j := by
  obtain ⟨h1, e1⟩ := List.getElem?_eq_some_iff.mp a
  obtain ⟨h2, e2⟩ := List.getElem?_eq_some_iff.mp b
  exact (List.getElem_inj hN).mp (e1.trans e2.symm)
theorem Mt.write {K : PySem.W.Frag} {H : Hp} {r : List Addr} {st : Hs} (m : Mt K H r st) {a : Nat} {p : Addr} {o : HO} {u : IO} (hp : r[a]? = some p) (h : RO K (upd H p o) r u p) : Mt K (upd H p o) r (st.set a u) := by
  refine ⟨by simp [m.len], m.nd, fun i v q h1 h2 => ?_⟩
  by_cases e : a = i
  · subst e
    rw [hp] at h2
    cases h2
    have hl : a < st.length := by
      rw [← m.len]
      exact (List.getElem?_eq_some_iff.mp hp).1
    rw [List.getElem?_set_self hl] at h1
    cases h1
    exact h
  · rw [List.getElem?_set_ne e] at h1
    refine (m.at_ i v q h1 h2).mono (Xt.write m hp) m (upd_ne fun z => e ?_)
    subst z
    exact nodup_ad m.nd hp h2
theorem Mt.ref {K : PySem.W.Frag} {H : Hp} {r : List Addr} {st : Hs} (m : Mt K H r st) {a : Nat} {o : IO} (h : st[a]? = some o) : ∃ p, r[a]? = some p ∧ RO K H r o p := by
  have hl : a < r.length := by
    rw [m.len]
    exact (List.getElem?_eq_some_iff.mp h).1
  exact ⟨r[a], by simp [hl], m.at_ a o _ h (by simp [hl])⟩

/-! ### the monad -/
/-- an exception: its class's name, what it keeps -/
structure Ex where
  c : Str
  fs : List (Str × IV)
inductive Rs (α : Type) where
  | ok (a : α) (st : Hs)
  | ex (e : Ex) (st : Hs)
  | no
abbrev M (α : Type) := Hs → Rs α
@[reducible] def ret {α : Type} (a : α) : M α := fun st => .ok a st
@[reducible] def stuck {α : Type} : M α := fun _ => .no
def bnd {α β : Type} (m : M α) (k : α → M β) : M β := fun st => match m st with
  | .ok a st' => k a st'
  | .ex e st' => .ex e st'
  | .no => .no
abbrev Env := List (Option IV)
/-- what a statement ends in -/
inductive RS where
  | nx (env : Env) (st : Hs)
  | rt (v : IV) (st : Hs)
  | bk (env : Env) (st : Hs)
  | ct (env : Env) (st : Hs)
  | ex (e : Ex) (env : Env) (st : Hs)
  | no
abbrev ME := Env → M IV
abbrev MS := Env → Hs → RS

def REnv (K : PySem.W.Frag) (H : Hp) (r : List Addr) (env : Env) (σ : L2.St) : Prop :=
  env.length = σ.length ∧ ∀ (i : Nat) (x : IV), env[i]? = some (some x) → ∃ v, σ[i]? = some (some v) ∧ RV K H r x v
theorem REnv.mono {K : PySem.W.Frag} {r r' : List Addr} {H H' : Hp} {st : Hs} {env : Env} {σ : L2.St} (e : REnv K H r env σ) (x : Xt r H r' H') (m : Mt K H r st) : REnv K H' r' env σ :=
  ⟨e.1, fun i a h => let ⟨v, h1, h2⟩ := e.2 i a h; ⟨v, h1, h2.mono x m⟩⟩
theorem REnv.set {K : PySem.W.Frag} {r : List Addr} {H : Hp} {env : Env} {σ : L2.St} (e : REnv K H r env σ) {i : Nat} {x : IV} {v : V} (h : RV K H r x v) : REnv K H r (env.set i (some x)) (σ.set i (some v)) := by
  refine ⟨by rw [List.length_set, List.length_set, e.1], fun j a hj => ?_⟩
  by_cases q : i = j
  · subst q
    by_cases hl : i < env.length
    · rw [List.getElem?_set_self hl] at hj
      cases hj
      exact ⟨v, by rw [List.getElem?_set_self (by rw [← e.1]; exact hl)], h⟩
    · rw [List.getElem?_eq_none (by simpa using hl)] at hj
      cases hj
  · rw [List.getElem?_set_ne q] at hj
    rw [List.getElem?_set_ne q]
    exact e.2 j a hj

/-- an exception as it lies -/
def ExR (K : PySem.W.Frag) (mg : Str → Option Value) (H : Hp) (r : List Addr) (e : Ex) (cls : Value) (d : Option Addr) : Prop :=
  mg e.c = some cls ∧ match e.fs with
    | [] => d = none
    | fs => ∃ dd vs, d = some dd ∧ H dd = some (.xd vs) ∧ fs.map (·.1) = vs.map (·.1) ∧ RVs K H r (fs.map (·.2)) (vs.map (·.2))

/-! ### the readings -/
/-- what is known once a part has given x: Q is wished of what it gives; W of an exception -/
def Aft {α β : Type} (X : Cx) (W : WX) (σ : L2.St) (rel : Hp → List Addr → α → β → Prop) (r : List Addr) (H : Hp) (x : Rs α) (Q : β → Hp → Prop) : Prop := match x with
  | .ok a st' => ∀ r' H' b, Xt r H r' H' → Mt X.K H' r' st' → rel H' r' a b → Q b H'
  | .ex e st' => ∀ r' H' cls d, Xt r H r' H' → Mt X.K H' r' st' → ExR X.K X.mg H' r' e cls d → W cls d σ H'
  | .no => False
section
variable {α β γ δ : Type} {X : Cx} {W : WX} {σ : L2.St} {rel : Hp → List Addr → α → β → Prop} {rel2 : Hp → List Addr → γ → δ → Prop} {r r' : List Addr} {H H' : Hp}
theorem Aft.later {x : Rs α} {Q : β → Hp → Prop} (h : Aft X W σ rel r H x Q) (e : Xt r H r' H') : Aft X W σ rel r' H' x Q := by
  cases x with
  | no => exact h
  | ok a st' => exact fun r2 H2 b x2 m2 q => h r2 H2 b (e.trans x2) m2 q
  | ex a st' => exact fun r2 H2 c d x2 m2 q => h r2 H2 c d (e.trans x2) m2 q
theorem Aft.imp {x : Rs α} {Q Q' : β → Hp → Prop} (h : Aft X W σ rel r H x Q) (i : ∀ b H, Q b H → Q' b H) : Aft X W σ rel r H x Q' := by
  cases x with
  | no => exact h
  | ok a st' => exact fun r2 H2 b x2 m2 q => i _ _ (h r2 H2 b x2 m2 q)
  | ex a st' => exact h
/-- one part, then the rest -/
theorem Aft.split {m : M α} {k : α → M γ} {st : Hs} {Q : δ → Hp → Prop} (h : Aft X W σ rel2 r H (bnd m k st) Q) :
    Aft X W σ rel r H (m st) (fun b H' => ∃ a r' st', Xt r H r' H' ∧ Mt X.K H' r' st' ∧ rel H' r' a b ∧ Aft X W σ rel2 r' H' (k a st') Q) := by
  unfold bnd at h
  cases q : m st with
  | no => rw [q] at h; exact h
  | ex e st' => rw [q] at h; exact h
  | ok a st' =>
    rw [q] at h
    exact fun r' H' b x1 m1 q1 => ⟨a, r', st', x1, m1, q1, Aft.later (h : Aft X W σ rel2 r H (k a st') Q) x1⟩
end
/-- a reading by a state-passing function -/
def tG {α β : Type} (X : Cx) (W : WX) (rel : Hp → List Addr → α → β → Prop) (m : Env → M α) : L2.St → Hp → (β → Hp → Prop) → Prop :=
  fun σ H Q => ∃ r env st, REnv X.K H r env σ ∧ Mt X.K H r st ∧ Aft X W σ rel r H (m env st) Q
abbrev rV (K : PySem.W.Frag) : Hp → List Addr → IV → V → Prop := fun H r x v => RV K H r x v
abbrev rVs (K : PySem.W.Frag) : Hp → List Addr → List IV → List V → Prop := fun H r x v => RVs K H r x v
abbrev rB : Hp → List Addr → Bool → Bool → Prop := fun _ _ a b => a = b
abbrev tE (X : Cx) (W : WX) (m : ME) : TE := tG X W (rV X.K) m
abbrev MT := Env → M Bool
abbrev MA := Env → M (List IV)
abbrev tT (X : Cx) (W : WX) (m : MT) : TT := tG X W rB m
abbrev tA (X : Cx) (W : WX) (m : MA) : TA := tG X W (rVs X.K) m
abbrev PEm (X : Cx) (W : WX) (e : Expr) (m : ME) : Prop := PE X e (tE X W m)
abbrev PTm (X : Cx) (W : WX) (e : Expr) (m : MT) : Prop := PT X e (tT X W m)
abbrev PWm (X : Cx) (W : WX) (e : Expr) (m : MT) : Prop := PW X e (tT X W m)
abbrev PAm (X : Cx) (W : WX) (es : List Expr) (m : MA) : Prop := PA X es (tA X W m)
section
variable {X : Cx}
theorem PE.weak {e : Expr} {t t' : TE} (h : PE X e t) (i : ∀ σ H Q, t' σ H Q → t σ H Q) : PE X e t' := ⟨fun pins s σ H Q I q => h.run pins s σ H Q I (i σ H Q q)⟩
theorem PT.weak {e : Expr} {t t' : TT} (h : PT X e t) (i : ∀ σ H Q, t' σ H Q → t σ H Q) : PT X e t' := ⟨fun pins s σ H Q I q => h.run pins s σ H Q I (i σ H Q q)⟩
theorem PW.weak {e : Expr} {t t' : TT} (h : PW X e t) (i : ∀ σ H Q, t' σ H Q → t σ H Q) : PW X e t' := ⟨fun whole pins s σ H Q I q => h.run whole pins s σ H Q I (i σ H Q q)⟩
theorem PA.weak {e : List Expr} {t t' : TA} (h : PA X e t) (i : ∀ σ H Q, t' σ H Q → t σ H Q) : PA X e t' := ⟨fun pos pins s σ H Q I q => h.run pos pins s σ H Q I (i σ H Q q)⟩
theorem PS.weak {e : Stmt} {t t' : TS} (h : PS X e t) (i : ∀ D σ H, t' D σ H → t D σ H) : PS X e t' := ⟨fun pins s σ H D I q => h.run pins s σ H D I (i D σ H q)⟩
theorem PSs.weak {e : List Stmt} {t t' : TS} (h : PSs X e t) (i : ∀ D σ H, t' D σ H → t D σ H) : PSs X e t' := ⟨fun pins s σ H D I q => h.run pins s σ H D I (i D σ H q)⟩
end
end Sm

set_option Elab.async false
set_option linter.all false
set_option maxRecDepth 100000
set_option maxHeartbeats 4000000
namespace Sm
open L2 PySem PySem.Spec
/-! ### expressions: names, constants, operators, tests -/
section
variable {X : Cx} {W : WX} {pos : Pos}
/-! the state-passing words -/
def mVar (i : Nat) : ME := fun env st => match env[i]? with
  | some (some x) => .ok x st
  | _ => .no
def mC (x : IV) : ME := fun _ st => .ok x st
/-- an operation without exceptions -/
abbrev O2 := IV → IV → Hs → Option (IV × Hs)
def lf (o : Option (IV × Hs)) : Rs IV := match o with
  | some (x, st) => .ok x st
  | none => .no
def mBin (f : O2) (a b : ME) : ME := fun env => bnd (a env) fun x => bnd (b env) fun y => fun st => lf (f x y st)
def asB (x : IV) : M Bool := match x with
  | .bl b => ret b
  | _ => stuck
def mtB (a : ME) : MT := fun env => bnd (a env) asB
def mAnd (a b : ME) : ME := fun env => bnd (a env) fun x => bnd (asB x) fun c => if c then b env else ret (.bl false)
def mOr (a b : ME) : ME := fun env => bnd (a env) fun x => bnd (asB x) fun c => if c then ret (.bl true) else b env
def mNot (a : ME) : ME := fun env => bnd (a env) fun x => bnd (asB x) fun c => ret (.bl (!c))
def mtAnd (a b : MT) : MT := fun env => bnd (a env) fun c => if c then b env else ret false
def mtOr (a b : MT) : MT := fun env => bnd (a env) fun c => if c then ret true else b env
def mtNot (a : MT) : MT := fun env => bnd (a env) fun c => ret (!c)
def mIf (c : MT) (a b : ME) : ME := fun env => bnd (c env) fun t => if t then a env else b env
/-- a f b g c, b asked once -/
def mChain (f g : O2) (a b c : ME) : ME := fun env => bnd (a env) fun x => bnd (b env) fun y => bnd (fun st => lf (f x y st)) fun z => bnd (asB z) fun t => if t then bnd (c env) (fun w st => lf (g y w st)) else ret (.bl false)

/-- what is wished of an operation's answer -/
def rM2 (K : PySem.W.Frag) (f : O2) : R2 := fun x' y' H Q => ∃ r x y st, Mt K H r st ∧ RV K H r x x' ∧ RV K H r y y' ∧ match f x y st with
  | some (z, st') => ∀ r' H' v, Xt r H r' H' → Mt K H' r' st' → RV K H' r' z v → Q v H'
  | none => False
theorem OpR.weak {f : Value → Value → Sem Value} {r r' : R2} (h : OpR X f r) (i : ∀ x y H Q, r' x y H Q → r x y H Q) : OpR X f r' := fun pins s σ H x y v u Q I rx ry q => h pins s σ H x y v u Q I rx ry (i x y H Q q)
theorem rM2_of {f : O2} {σ : L2.St} {r : List Addr} {H : Hp} {x y : IV} {x' y' : V} {st : Hs} {Q : VK} (m : Mt X.K H r st) (rx : RV X.K H r x x') (ry : RV X.K H r y y') (h : Aft X W σ (rV X.K) r H (lf (f x y st)) Q) : rM2 X.K f x' y' H Q := by
  refine ⟨r, x, y, st, m, rx, ry, ?_⟩
  cases q : f x y st with
  | none => rw [q] at h; exact h
  | some p => rw [q] at h; exact h

theorem pem_var (i : Nat) {x : Str} (hN : X.N[i]? = some x := by rfl) (hv : Vis X.env.scope x := by first | exact Or.inl rfl | exact Or.inr (Or.inl rfl) | exact Or.inr (Or.inr rfl)) (hd : (x == ("__debug__" : Str)) = false := by decide)
    (hcd : (x == ("__classdict__" : Str)) = false := by decide) : PEm X W (.Name x pos) (mVar i) := PE.weak (pv i hN hv hd hcd) fun σ H Q ⟨r, env, st, he, hm, h⟩ => by
  unfold mVar at h
  split at h
  · rename_i y q
    obtain ⟨v, e1, rv⟩ := he.2 i y q
    exact ⟨v, e1, h r H v Xt.refl hm rv⟩
  · exact h.elim
theorem pem_C {e : Expr} {x : IV} {v : V} (h : PE X e (tC v)) (rv : ∀ H r, RV X.K H r x v) : PEm X W e (mC x) := PE.weak h fun σ H Q ⟨r, env, st, he, hm, h⟩ => h r H v Xt.refl hm (rv H r)
theorem pem_int {i : Int} {j : Nat} : PEm X W (.Constant (.int i) j pos) (mC (.int i)) := pem_C pe_int fun _ _ => .int i
theorem pem_bl {b : Bool} {j : Nat} : PEm X W (.Constant (.bool b) j pos) (mC (.bl b)) := pem_C pe_bl fun _ _ => .bl b
theorem pem_non {j : Nat} : PEm X W (.Constant .none j pos) (mC .non) := pem_C pe_non fun _ _ => .non
theorem pem_str {x : Str} {j : Nat} : PEm X W (.Constant (.str x) j pos) (mC (.str x)) := pem_C pe_str fun _ _ => .str x
theorem pem_gI {x : Str} {i : Int} (hg : Gl X x) (h : ∃ t, X.mg x = some (.int i t)) (hd : (x == ("__debug__" : Str)) = false := by decide) : PEm X W (.Name x pos) (mC (.int i)) := by
  obtain ⟨t, e⟩ := h
  exact pem_C (pe_glob (v := .int i) hg e ⟨t, rfl⟩ (hd := hd)) fun _ _ => .int i
theorem pem_gS {x z : Str} (hg : Gl X x) (h : ∃ t, X.mg x = some (.str z t)) (hd : (x == ("__debug__" : Str)) = false := by decide) : PEm X W (.Name x pos) (mC (.str z)) := by
  obtain ⟨t, e⟩ := h
  exact pem_C (pe_glob (v := .str z) hg e ⟨t, rfl⟩ (hd := hd)) fun _ _ => .str z

variable {a b c : Expr} {ma mb mc : ME} {rest : List Expr}
theorem pem_op {op : Operator} {f : O2} (ho : OpR X (binaryOp op) (rM2 X.K f)) (ha : PEm X W a ma) (hb : PEm X W b mb) : PEm X W (.BinOp a op b pos) (mBin f ma mb) :=
  PE.weak (pe_op ho ha hb) fun σ H Q ⟨r, env, st, he, hm, h⟩ => ⟨r, env, st, he, hm, h.split.imp fun v H1 ⟨x, r1, st1, x1, m1, rv, h1⟩ =>
    ⟨r1, env, st1, he.mono x1 hm, m1, h1.split.imp fun v2 H2 ⟨y, r2, st2, x2, m2, rv2, h2⟩ => rM2_of m2 (rv.mono x2 m1) rv2 h2⟩⟩
theorem pem_cmp {op : CmpOp} {f : O2} (ho : OpR X (compareOp op) (rM2 X.K f)) (ha : PEm X W a ma) (hb : PEm X W b mb) (hm : behindInMarks op b = false := by first | exact nomark _ | rfl | with_unfolding_all rfl) : PEm X W (.Compare a [op] [b] pos) (mBin f ma mb) :=
  PE.weak (pe_cmpR ho ha hb hm) fun σ H Q ⟨r, env, st, he, hm, h⟩ => ⟨r, env, st, he, hm, h.split.imp fun v H1 ⟨x, r1, st1, x1, m1, rv, h1⟩ =>
    ⟨r1, env, st1, he.mono x1 hm, m1, h1.split.imp fun v2 H2 ⟨y, r2, st2, x2, m2, rv2, h2⟩ => rM2_of m2 (rv.mono x2 m1) rv2 h2⟩⟩
/-- a value that is a bool, as a test -/
theorem asB_of {σ : L2.St} {r : List Addr} {H : Hp} {x : IV} {v : V} {st : Hs} {Q : Bool → Hp → Prop} (m : Mt X.K H r st) (rv : RV X.K H r x v) (h : Aft X W σ rB r H (asB x st) Q) : ∃ k, v = .bl k ∧ Q k H := by
  cases rv with
  | bl k => exact ⟨k, rfl, h r H k Xt.refl m rfl⟩
  | non => exact h.elim
  | int i => exact h.elim
  | str i => exact h.elim
  | tup _ _ => exact h.elim
  | rl _ _ => exact h.elim
  | ref _ => exact h.elim
theorem ptm_cmp {op : CmpOp} {f : O2} (ho : OpR X (compareOp op) (rM2 X.K f)) (ha : PEm X W a ma) (hb : PEm X W b mb) (hm : behindInMarks op b = false := by first | exact nomark _ | rfl | with_unfolding_all rfl) : PTm X W (.Compare a [op] [b] pos) (mtB (mBin f ma mb)) :=
  PT.weak (pt_cmpR ho ha hb hm) fun σ H Q ⟨r, env, st, he, hm, h⟩ => by
    have h0 := h.split (rel := rV X.K)
    exact ⟨r, env, st, he, hm, h0.split.imp fun v H1 ⟨x, r1, st1, x1, m1, rv, h1⟩ => ⟨r1, env, st1, he.mono x1 hm, m1, h1.split.imp fun v2 H2 ⟨y, r2, st2, x2, m2, rv2, h2⟩ =>
      rM2_of m2 (rv.mono x2 m1) rv2 (h2.imp fun v3 H3 ⟨z, r3, st3, x3, m3, rv3, h3⟩ => asB_of m3 rv3 h3)⟩⟩
theorem pem_chain {op op' : CmpOp} {f g : O2} (ho : OpR X (compareOp op) (rM2 X.K f)) (ho' : OpR X (compareOp op') (rM2 X.K g)) (ha : PEm X W a ma) (hb : PEm X W b mb) (hc : PEm X W c mc)
    (hm : lastMarks [op, op'] [b, c] = false := by with_unfolding_all rfl) : PEm X W (.Compare a [op, op'] [b, c] pos) (mChain f g ma mb mc) :=
  PE.weak (pe_chain ho ho' ha hb hc hm) fun σ H Q ⟨r, env, st, he, hm, h⟩ => ⟨r, env, st, he, hm, h.split.imp fun v H1 ⟨x, r1, st1, x1, m1, rv, h1⟩ => ⟨r1, env, st1, he.mono x1 hm, m1, h1.split.imp fun v2 H2 ⟨y, r2, st2, x2, m2, rv2, h2⟩ =>
    rM2_of m2 (rv.mono x2 m1) rv2 (h2.split.imp fun v3 H3 ⟨z, r3, st3, x3, m3, rv3, h3⟩ => by
      obtain ⟨k, e, t, r4, st4, x4, m4, ek, h4⟩ := asB_of m3 rv3 h3.split
      refine ⟨k, e, ?_⟩
      subst ek
      cases t with
      | true => exact iteT ⟨r4, env, st4, (((he.mono x1 hm).mono x2 m1).mono x3 m2).mono x4 m3, m4, (show Aft X W σ (rV X.K) r4 H3 (bnd (mc env) (fun w st => lf (g y w st)) st4) Q from h4).split.imp fun v5 H5 ⟨w, r5, st5, x5, m5, rv5, h5⟩ =>
          rM2_of m5 (((rv2.mono x3 m2).mono x4 m3).mono x5 m4) rv5 h5⟩
      | false => exact iteF (h4 r4 H3 (.bl false) Xt.refl m4 (.bl false)))⟩⟩
theorem ptm_chain {op op' : CmpOp} {f g : O2} (ho : OpR X (compareOp op) (rM2 X.K f)) (ho' : OpR X (compareOp op') (rM2 X.K g)) (ha : PEm X W a ma) (hb : PEm X W b mb) (hc : PEm X W c mc)
    (hm : lastMarks [op, op'] [b, c] = false := by with_unfolding_all rfl) : PTm X W (.Compare a [op, op'] [b, c] pos) (mtB (mChain f g ma mb mc)) :=
  PT.weak (pt_chain ho ho' ha hb hc hm) fun σ H Q ⟨r, env, st, he, hm, h⟩ => by
    have h0 := h.split (rel := rV X.K)
    exact ⟨r, env, st, he, hm, h0.split.imp fun v H1 ⟨x, r1, st1, x1, m1, rv, h1⟩ => ⟨r1, env, st1, he.mono x1 hm, m1, h1.split.imp fun v2 H2 ⟨y, r2, st2, x2, m2, rv2, h2⟩ =>
    rM2_of m2 (rv.mono x2 m1) rv2 (h2.split.imp fun v3 H3 ⟨z, r3, st3, x3, m3, rv3, h3⟩ => by
      obtain ⟨k, e, t, r4, st4, x4, m4, ek, h4⟩ := asB_of m3 rv3 h3.split
      refine ⟨k, e, ?_⟩
      subst ek
      cases t with
      | true =>
        have h5 := (show Aft X W σ (rV X.K) r4 H3 (bnd (mc env) (fun w st => lf (g y w st)) st4) _ from h4).split (rel := rV X.K)
        exact iteT ⟨r4, env, st4, (((he.mono x1 hm).mono x2 m1).mono x3 m2).mono x4 m3, m4, h5.imp fun v5 H5 ⟨w, r5, st5, x5, m5, rv5, h5⟩ =>
          rM2_of m5 (((rv2.mono x3 m2).mono x4 m3).mono x5 m4) rv5 (h5.imp fun v6 H6 ⟨z6, r6, st6, x6, m6, rv6, h6⟩ => asB_of m6 rv6 h6)⟩
      | false =>
        obtain ⟨z6, r6, st6, x6, m6, rv6, h6⟩ := h4 r4 H3 (.bl false) Xt.refl m4 (.bl false)
        exact iteF (asB_of m6 rv6 h6))⟩⟩
/-- any expression whose value is a bool, as a test -/
theorem ptm_val (ha : PEm X W a ma) (he : ∀ whole, isTrue a X.env whole = (do let v ← whole; standAt a.pos; holding [v] (truthy v)) := by intro _; rfl) : PTm X W a (mtB ma) :=
  PT.weak (pt_val ha he) fun σ H Q ⟨r, env, st, he, hm, h⟩ => ⟨r, env, st, he, hm, h.split.imp fun v H1 ⟨x, r1, st1, x1, m1, rv, h1⟩ => asB_of m1 rv h1⟩
theorem pem_one {op : BoolOp} (ha : PEm X W a ma) : PEm X W (.BoolOp op [a] pos) ma := pe_one ha
theorem pem_and (ha : PEm X W a ma) (hb : PEm X W (.BoolOp .And (b :: rest) pos) mb) : PEm X W (.BoolOp .And (a :: b :: rest) pos) (mAnd ma mb) :=
  PE.weak (pe_and ha hb) fun σ H Q ⟨r, env, st, he, hm, h⟩ => ⟨r, env, st, he, hm, h.split.imp fun v H1 ⟨x, r1, st1, x1, m1, rv, h1⟩ => by
    obtain ⟨k, e, t, r4, st4, x4, m4, ek, h4⟩ := asB_of m1 rv h1.split
    refine ⟨k, e, ?_⟩
    subst ek
    cases t with
    | true => exact iteT ⟨r4, env, st4, (he.mono x1 hm).mono x4 m1, m4, h4⟩
    | false => exact iteF (h4 r4 H1 (.bl false) Xt.refl m4 (.bl false))⟩
theorem pem_or (ha : PEm X W a ma) (hb : PEm X W (.BoolOp .Or (b :: rest) pos) mb) : PEm X W (.BoolOp .Or (a :: b :: rest) pos) (mOr ma mb) :=
  PE.weak (pe_or ha hb) fun σ H Q ⟨r, env, st, he, hm, h⟩ => ⟨r, env, st, he, hm, h.split.imp fun v H1 ⟨x, r1, st1, x1, m1, rv, h1⟩ => by
    obtain ⟨k, e, t, r4, st4, x4, m4, ek, h4⟩ := asB_of m1 rv h1.split
    refine ⟨k, e, ?_⟩
    subst ek
    cases t with
    | false => exact iteF ⟨r4, env, st4, (he.mono x1 hm).mono x4 m1, m4, h4⟩
    | true => exact iteT (h4 r4 H1 (.bl true) Xt.refl m4 (.bl true))⟩
theorem pem_not (ha : PEm X W a ma) : PEm X W (.UnaryOp .Not a pos) (mNot ma) :=
  PE.weak (pe_not ha) fun σ H Q ⟨r, env, st, he, hm, h⟩ => ⟨r, env, st, he, hm, h.split.imp fun v H1 ⟨x, r1, st1, x1, m1, rv, h1⟩ => by
    obtain ⟨k, e, t, r4, st4, x4, m4, ek, h4⟩ := asB_of m1 rv h1.split
    refine ⟨k, e, ?_⟩
    subst ek
    exact h4 r4 H1 (.bl (!t)) Xt.refl m4 (.bl (!t))⟩
variable {ta tb tc : MT}
theorem pwm_and1 (ha : PTm X W a ta) : PWm X W (.BoolOp .And [a] pos) ta := pw_and1 ha
theorem pwm_or1 (ha : PTm X W a ta) : PWm X W (.BoolOp .Or [a] pos) ta := pw_or1 ha
theorem pwm_and (ha : PTm X W a ta) (hb : PWm X W (.BoolOp .And (b :: rest) pos) tb) : PWm X W (.BoolOp .And (a :: b :: rest) pos) (mtAnd ta tb) :=
  PW.weak (pw_and ha hb) fun σ H Q ⟨r, env, st, he, hm, h⟩ => ⟨r, env, st, he, hm, (h.split (rel := rB)).imp fun v H1 ⟨t, r1, st1, x1, m1, ek, h1⟩ => by
    subst ek
    cases t with
    | true => exact iteT ⟨r1, env, st1, he.mono x1 hm, m1, h1⟩
    | false => exact iteF (h1 r1 H1 false Xt.refl m1 rfl)⟩
theorem pwm_or (ha : PTm X W a ta) (hb : PWm X W (.BoolOp .Or (b :: rest) pos) tb) : PWm X W (.BoolOp .Or (a :: b :: rest) pos) (mtOr ta tb) :=
  PW.weak (pw_or ha hb) fun σ H Q ⟨r, env, st, he, hm, h⟩ => ⟨r, env, st, he, hm, (h.split (rel := rB)).imp fun v H1 ⟨t, r1, st1, x1, m1, ek, h1⟩ => by
    subst ek
    cases t with
    | false => exact iteF ⟨r1, env, st1, he.mono x1 hm, m1, h1⟩
    | true => exact iteT (h1 r1 H1 true Xt.refl m1 rfl)⟩
theorem ptm_bool (h : PWm X W a ta) : PTm X W a ta := h.pt
theorem ptm_not (ha : PTm X W a ta) : PTm X W (.UnaryOp .Not a pos) (mtNot ta) :=
  PT.weak (pt_not ha) fun σ H Q ⟨r, env, st, he, hm, h⟩ => ⟨r, env, st, he, hm, (h.split (rel := rB)).imp fun v H1 ⟨t, r1, st1, x1, m1, ek, h1⟩ => by
    subst ek
    exact h1 r1 H1 (!t) Xt.refl m1 rfl⟩
theorem pem_if (hc : PTm X W c tc) (ha : PEm X W a ma) (hb : PEm X W b mb) : PEm X W (.IfExp c a b pos) (mIf tc ma mb) :=
  PE.weak (pe_ifExp hc ha hb) fun σ H Q ⟨r, env, st, he, hm, h⟩ => ⟨r, env, st, he, hm, (h.split (rel := rB)).imp fun v H1 ⟨t, r1, st1, x1, m1, ek, h1⟩ => by
    subst ek
    cases t with
    | true => exact iteT ⟨r1, env, st1, he.mono x1 hm, m1, h1⟩
    | false => exact iteF ⟨r1, env, st1, he.mono x1 hm, m1, h1⟩⟩
end
end Sm

set_option Elab.async false
set_option linter.all false
set_option maxRecDepth 100000
set_option maxHeartbeats 4000000
namespace Sm
open L2 PySem PySem.Spec
open PySem.SeqAt (EqAt RcAt RcNeAt)
/-! ### equality of data -/
def ioL : Option IO → Option (List IV)
  | some (.lst xs) => some xs
  | _ => none
def lstOf (st : Hs) : IV → Option (List IV)
  | .rl xs => some xs
  | .ref a => ioL st[a]?
  | _ => none
/-- whether a value is data of a known kind -/
def isDat (st : Hs) : IV → Bool
  | .ref a => (ioL st[a]?).isSome
  | _ => true
theorem ioL_some {o : Option IO} {xs : List IV} (h : ioL o = some xs) : o = some (.lst xs) := by
  cases o with
  | none => cases h
  | some o =>
    cases o with
    | lst ys => cases h; rfl
    | _ => cases h
def eqAll (f : IV → IV → Option Bool) : List IV → List IV → Option Bool
  | x :: xs, y :: ys => match f x y, eqAll f xs ys with
    | some a, some b => some (a && b)
    | _, _ => none
  | _, _ => some true
def eqI (st : Hs) : Nat → IV → IV → Option Bool
  | 0, _, _ => none
  | n + 1, x, y => match x, y with
    | .non, .non => some true
    | .bl a, .bl b => some (a == b)
    | .bl a, .int j => some ((if a then 1 else 0) == j)
    | .int i, .bl b => some (i == (if b then 1 else 0))
    | .int i, .int j => some (i == j)
    | .str a, .str b => some (a == b)
    | .tup xs, .tup ys => (eqAll (eqI st n) xs ys).map fun b => b && xs.length == ys.length
    | x, y => match lstOf st x, lstOf st y with
      | some xs, some ys => if xs.length = ys.length then eqAll (eqI st n) xs ys else some false
      | _, _ => if isDat st x && isDat st y then some false else none

/-- the kinds, by the real heap -/
inductive Kd (K : PySem.W.Frag) (H : Hp) (r : List Addr) (st : Hs) (s : Shared) : IV → Value → Prop where
  | non : Kd K H r st s .non .none
  | bl (b : Bool) : Kd K H r st s (.bl b) (.bool b)
  | int (i : Int) (t : Tok) : Kd K H r st s (.int i) (.int i t)
  | str (x : Str) (t : Tok) : Kd K H r st s (.str x) (.str x t)
  | tup {p : Addr} {xs : List IV} {vs : List V} {us : List Value} : PyProof.Rows.IsTup s.heap p us.toArray → RVs K H r xs vs → Vals vs us → SqT K H p vs → Kd K H r st s (.tup xs) (.ref p)
  | lst {x : IV} {p : Addr} {xs : List IV} {vs : List V} {us : List Value} : lstOf st x = some xs → s.heap.IsList p us.toArray → RVs K H r xs vs → Vals vs us → SqL K H p vs → Kd K H r st s x (.ref p)
section
variable {X : Cx} {pins : List (Addr × Obj)} {σ : L2.St} {H : Hp} {s : Shared} {r : List Addr} {st : Hs}
theorem kd_of (I : Inv X pins σ H s) (m : Mt X.K H r st) {x : IV} {v : V} {u : Value} (rv : RV X.K H r x v) (ru : RelV v u) (d : isDat st x = true) : Kd X.K H r st s x u := by
  cases rv with
  | non => cases ru; exact .non
  | bl b => cases ru; exact .bl b
  | int i => obtain ⟨t, rfl⟩ := ru; exact .int i t
  | str i => obtain ⟨t, rfl⟩ := ru; exact .str i t
  | tup h hs =>
    cases ru
    obtain ⟨us, ra, p, _⟩ := I.tuple h
    exact .tup p hs ra h
  | rl h hs =>
    cases ru
    obtain ⟨us, ra, p, _⟩ := I.list h.sq
    exact .lst rfl p.isList hs ra h.sq
  | @ref a p h =>
    cases ru
    obtain ⟨xs, e⟩ := Option.isSome_iff_exists.mp (show (ioL st[a]?).isSome = true from d)
    obtain ⟨p', e1, vs, e2, hs⟩ := m.ref (ioL_some e)
    rw [h] at e1
    cases e1
    obtain ⟨us, ra, pl, _⟩ := I.list (SqL.of e2)
    exact .lst e pl.isList hs ra (SqL.of e2)
theorem k_none (I : Inv X pins σ H s) {a : Addr} {o : Obj} (h : X.K.lookup a = some o) : H a = none := (I.bs a o (I.mod.kin a o h)).2
theorem isDat_lst {x : IV} {xs : List IV} (h : lstOf st x = some xs) : isDat st x = true := by
  cases x with
  | ref a =>
    show (ioL st[a]?).isSome = true
    rw [show ioL st[a]? = some xs from h]
    rfl
  | _ => first | rfl | cases h

mutual
/-- one object, one value -/
theorem RV.inj (I : Inv X pins σ H s) (m : Mt X.K H r st) : ∀ {x y : IV} {v : V}, RV X.K H r x v → RV X.K H r y v → x = y
  | _, _, _, .non, h => by cases h; rfl
  | _, _, _, .bl b, h => by cases h; rfl
  | _, _, _, .int i, h => by cases h; rfl
  | _, _, _, .str z, h => by cases h; rfl
  | _, _, _, .tup h hs, g => by
    cases g with
    | tup h' hs' =>
      cases I.tuple_inj h h'
      rw [RVs.inj I m hs hs']
    | rl h' hs' =>
      obtain ⟨_, _, ⟨o, e, c, _⟩, _⟩ := I.tuple h
      obtain ⟨_, _, ⟨o', _, e', c', _⟩, _⟩ := I.list h'.sq
      rw [e] at e'
      cases e'
      rw [c] at c'
      exact absurd c' (by decide +kernel)
    | ref h' => exact (no_tup I m h h').elim
  | _, _, _, .rl h hs, g => by
    cases g with
    | rl h' hs' =>
      cases I.list_inj h.sq h'.sq
      rw [RVs.inj I m hs hs']
    | tup h' hs' =>
      obtain ⟨_, _, ⟨o, e, c, _⟩, _⟩ := I.tuple h'
      obtain ⟨_, _, ⟨o', _, e', c', _⟩, _⟩ := I.list h.sq
      rw [e] at e'
      cases e'
      rw [c] at c'
      exact absurd c' (by decide +kernel)
    | ref h' => exact (no_rl I m h h').elim
  | _, _, _, .ref h, g => by
    cases g with
    | ref h' => rw [nodup_ad m.nd h h']
    | tup h' hs' => exact (no_tup I m h' h).elim
    | rl h' hs' => exact (no_rl I m h' h).elim
theorem RVs.inj (I : Inv X pins σ H s) (m : Mt X.K H r st) : ∀ {x y : List IV} {v : List V}, RVs X.K H r x v → RVs X.K H r y v → x = y
  | _, _, _, .nil, .nil => rfl
  | _, _, _, .cons h hs, .cons g gs => by rw [RV.inj I m h g, RVs.inj I m hs gs]
theorem no_tup (I : Inv X pins σ H s) (m : Mt X.K H r st) {p : Addr} {vs : List V} {a : Nat} (h : SqT X.K H p vs) (h' : r[a]? = some p) : False := by
  have w := m.mut (List.mem_of_getElem? h')
  rcases h with (h | ⟨o, h⟩) | ⟨o, its, n, e, _⟩
  · rw [h] at w; exact w
  · rw [h] at w; exact w
  · rw [k_none I e] at w; exact w
theorem no_rl (I : Inv X pins σ H s) (m : Mt X.K H r st) {p : Addr} {vs : List V} {a : Nat} (h : RolA X.K H p vs) (h' : r[a]? = some p) : False := by
  have w := m.mut (List.mem_of_getElem? h')
  rcases h with ⟨o, h⟩ | ⟨o, its, n, e, _⟩
  · rw [h] at w; exact w
  · rw [k_none I e] at w; exact w
end

theorem eqAll_refl {f : IV → IV → Option Bool} : ∀ {xs : List IV} {b : Bool}, (∀ x b, f x x = some b → b = true) → eqAll f xs xs = some b → b = true
  | [], b, _, h => by
    unfold eqAll at h
    exact (Option.some.inj h).symm
  | x :: xs, b, hf, h => by
    unfold eqAll at h
    split at h
    · rename_i a c h1 h2
      cases h
      rw [hf x a h1, eqAll_refl hf h2] <;> rfl
    · cases h
theorem eqI_refl : ∀ (n : Nat) (x : IV) (b : Bool), eqI st n x x = some b → b = true
  | 0, _, _, h => by cases h
  | n + 1, x, b, h => by
    have lc : ∀ y : IV, (match lstOf st y, lstOf st y with
      | some xs, some ys => if xs.length = ys.length then eqAll (eqI st n) xs ys else some false
      | _, _ => if isDat st y && isDat st y then some false else none) = some b → (isDat st y = true → (lstOf st y).isSome = true) → b = true := fun y h k => by
      cases q : lstOf st y with
      | some xs =>
        rw [q] at h
        simp only [if_true] at h
        exact eqAll_refl (eqI_refl n) h
      | none =>
        rw [q] at h
        by_cases d : isDat st y = true
        · have := k d
          rw [q] at this
          cases this
        · simp only [Bool.not_eq_true] at d
          simp only [d, Bool.and_false] at h
          cases h
    cases x with
    | non => exact (Option.some.inj h).symm
    | bl c => exact (Option.some.inj h).symm.trans (beq_self_eq_true c)
    | int i => exact (Option.some.inj h).symm.trans (beq_self_eq_true i)
    | str i => exact (Option.some.inj h).symm.trans (beq_self_eq_true i)
    | tup xs =>
      unfold eqI at h
      simp only [beq_self_eq_true, Bool.and_true, Option.map_id'] at h
      exact eqAll_refl (eqI_refl n) h
    | rl xs => exact lc (.rl xs) h fun _ => rfl
    | ref a => exact lc (.ref a) h fun d => d

/-- the three comparisons -/
structure Eq3 (A : Around) (s : Shared) (u w : Value) (b : Bool) : Prop where
  rc : RcAt A s u w b
  ne : RcNeAt A s u w (!b)
  eq : EqAt A s u w b
theorem eq3_swap {A : Around} {u w : Value} {b c : Bool} (h : Eq3 A s u w b) (e : b = c) : Eq3 A s u w c := e ▸ h
/-- items, by places -/
theorem eqAll_at {f : IV → IV → Option Bool} {P : Value → Value → Bool → Prop} (hp : ∀ x y b v w u1 u2, f x y = some b → RV X.K H r x v → RV X.K H r y w → RelV v u1 → RelV w u2 → P u1 u2 b) :
    ∀ {xs ys : List IV} {b : Bool}, eqAll f xs ys = some b → ∀ {vs ws : List V} {us us2 : List Value}, RVs X.K H r xs vs → RVs X.K H r ys ws → Vals vs us → Vals ws us2 →
      ∃ e : Nat → Bool, (∀ j (h1 : j < us.length) (h2 : j < us2.length), P us[j] us2[j] (e j)) ∧ (List.range (min us.length us2.length)).all e = b
  | [], ys, b, h, _, _, us, us2, q1, _, q2, _ => by
      cases q1
      cases q2
      refine ⟨fun _ => true, fun j h1 => absurd h1 (Nat.not_lt_zero j), ?_⟩
      unfold eqAll at h
      cases h
      simp
  | x :: xs, [], b, h, _, _, us, us2, _, q1, _, q2 => by
      cases q1
      cases q2
      refine ⟨fun _ => true, fun j _ h2 => absurd h2 (Nat.not_lt_zero j), ?_⟩
      unfold eqAll at h
      cases h
      simp
  | x :: xs, y :: ys, b, h, _, _, _, _, q1, q2, q3, q4 => by
    cases q1 with | cons rx rxs =>
    cases q2 with | cons ry rys =>
    cases q3 with | cons a1 as =>
    cases q4 with | cons b1 bs =>
    unfold eqAll at h
    split at h
    · rename_i c d h1 h2
      cases h
      obtain ⟨e, k1, k2⟩ := eqAll_at hp h2 rxs rys as bs
      refine ⟨fun j => match j with | 0 => c | j + 1 => e j, fun j g1 g2 => ?_, ?_⟩
      · cases j with
        | zero => exact hp _ _ _ _ _ _ _ h1 rx ry a1 b1
        | succ j => exact k1 j (Nat.lt_of_succ_lt_succ g1) (Nat.lt_of_succ_lt_succ g2)
      · simp only [List.length_cons, Nat.succ_min_succ]
        rw [show Nat.succ = (· + 1) from rfl]
        simp only [List.range_succ_eq_map, List.all_cons, List.all_map]
        rw [← k2]
        rfl
    · cases h
theorem eqI_ll {n : Nat} {x y : IV} {xs ys : List IV} (hx : lstOf st x = some xs) (hy : lstOf st y = some ys) : eqI st (n + 1) x y = if xs.length = ys.length then eqAll (eqI st n) xs ys else some false := by
  cases x <;> first
    | (cases hx; done)
    | (cases y <;> first
      | (cases hy; done)
      | (unfold eqI; simp only [hx, hy]))
theorem eqI_ln {n : Nat} {x y : IV} {xs : List IV} {b : Bool} (hx : lstOf st x = some xs) (hy : lstOf st y = none) (h : eqI st (n + 1) x y = some b) : b = false := by
  cases x <;> first
    | (cases hx; done)
    | (cases y <;> first
      | (cases hy; done)
      | (unfold eqI at h
         simp only [hx, hy] at h
         split at h
         · cases h; rfl
         · cases h))
theorem eqI_nl {n : Nat} {x y : IV} {ys : List IV} {b : Bool} (hx : lstOf st x = none) (hy : lstOf st y = some ys) (h : eqI st (n + 1) x y = some b) : b = false := by
  cases y <;> first
    | (cases hy; done)
    | (cases x <;> first
      | (cases hx; done)
      | (unfold eqI at h
         simp only [hx, hy] at h
         split at h
         · cases h; rfl
         · cases h))
theorem eqI_dat {n : Nat} {x y : IV} {b : Bool} (h : eqI st (n + 1) x y = some b) : isDat st x = true ∧ isDat st y = true := by
  have lc : ∀ {x y : IV} {q : Option Bool}, (match lstOf st x, lstOf st y with
      | some xs, some ys => if xs.length = ys.length then eqAll (eqI st n) xs ys else some false
      | _, _ => if isDat st x && isDat st y then some false else none) = some b → isDat st x = true ∧ isDat st y = true := fun {x y q} h => by
    cases hx : lstOf st x with
    | some xs =>
      cases hy : lstOf st y with
      | some ys => exact ⟨isDat_lst hx, isDat_lst hy⟩
      | none =>
        simp only [hx, hy] at h
        split at h
        · rename_i q
          exact Bool.and_eq_true_iff.mp q
        · cases h
    | none =>
      simp only [hx] at h
      split at h
      · rename_i q
        exact Bool.and_eq_true_iff.mp q
      · cases h
  cases x <;> cases y <;> first
    | exact ⟨rfl, rfl⟩
    | exact lc (q := none) h
/-- a comparison of data answers as eqI says -/
theorem eqI_at (I : Inv X pins σ H s) (m : Mt X.K H r st) : ∀ (n : Nat) (A : Around), A.units + n < cLine → ∀ (x y : IV) (b : Bool) (v w : V) (u1 u2 : Value), eqI st n x y = some b → RV X.K H r x v → RV X.K H r y w → RelV v u1 → RelV w u2 → Eq3 A s u1 u2 b
  | 0, _, _, _, _, _, _, _, _, _, h, _, _, _, _ => by cases h
  | n + 1, A, hu, x, y, b, v, w, u1, u2, h, rx, ry, q1, q2 => by
    obtain ⟨dx, dy⟩ := eqI_dat h
    have kx := kd_of I m rx q1 dx
    have ky := kd_of I m ry q2 dy
    have hu0 : A.units < cLine := by omega
    have ih := eqI_at I m n A.in1 (by show A.units + 1 + n < cLine; omega)
    have deep : ∀ {xs ys : List IV} {c : Bool} {vs ws : List V} {us us2 : List Value}, eqAll (eqI st n) xs ys = some c → RVs X.K H r xs vs → RVs X.K H r ys ws → Vals vs us → Vals ws us2 →
        ∃ e : Nat → Bool, (∀ j (h1 : j < us.length) (h2 : j < us2.length), EqAt A.in1 s us[j] us2[j] (e j)) ∧ (List.range (min us.length us2.length)).all e = c :=
      fun {xs ys c vs ws us us2} hc a1 a2 a3 a4 => eqAll_at (P := fun u w b => EqAt A.in1 s u w b) (fun x y b v w u1 u2 e1 e2 e3 e4 e5 => (ih x y b v w u1 u2 e1 e2 e3 e4 e5).eq) hc a1 a2 a3 a4
    have ref3 : ∀ {p q : Addr}, u1 = .ref p → u2 = .ref q → RcAt A s (.ref p) (.ref q) b → RcNeAt A s (.ref p) (.ref q) (!b) → Eq3 A s u1 u2 b := fun {p q} e1 e2 a1 a2 => by
      subst e1 e2
      refine ⟨a1, a2, ?_⟩
      by_cases e : p = q
      · subst e
        have ev : v = .ref p := by cases v <;> first | (cases q1; done) | (cases q1; rfl) | (obtain ⟨_, z⟩ := q1; cases z)
        have ew : w = .ref p := by cases w <;> first | (cases q2; done) | (cases q2; rfl) | (obtain ⟨_, z⟩ := q2; cases z)
        subst ev ew
        have exy := RV.inj I m rx ry
        subst exy
        rw [eqI_refl _ _ _ h]
        exact .same _
      · exact .of_refs e a1
    cases kx with
    | non =>
      cases ky with
      | non => cases h; exact ⟨.none_none, .none_none, .same _⟩
      | bl c => cases h; exact ⟨.none_bool c, .none_bool c, .none_bool c⟩
      | int i t => cases h; exact ⟨.none_int i t, .none_int i t, .none_int i t⟩
      | str z t => cases h; exact ⟨.none_str z t, .none_str z t, .none_str z t⟩
      | tup p _ _ _ => cases h; exact ⟨.none_tuple p hu0, .none_tuple p hu0, .none_tuple p hu0⟩
      | lst hl p _ _ _ => cases eqI_nl rfl hl h; exact ⟨.none_list p hu0, .none_list p hu0, .none_list p hu0⟩
    | bl a =>
      cases ky with
      | non => cases h; exact ⟨.bool_none a, .bool_none a, .bool_none a⟩
      | bl c => cases h; exact ⟨.bool_bool a c, .bool_bool a c, .bool_bool a c⟩
      | int i t => cases h; exact ⟨.bool_int a i t, .bool_int a i t, .bool_int a i t⟩
      | str z t => cases h; exact ⟨.bool_str a z t, .bool_str a z t, .bool_str a z t⟩
      | tup p _ _ _ => cases h; exact ⟨.bool_tuple a p hu0, .bool_tuple a p hu0, .bool_tuple a p hu0⟩
      | lst hl p _ _ _ => cases eqI_nl rfl hl h; exact ⟨.bool_list a p hu0, .bool_list a p hu0, .bool_list a p hu0⟩
    | int a ta =>
      cases ky with
      | non => cases h; exact ⟨.int_none a ta, .int_none a ta, .int_none a ta⟩
      | bl c => cases h; exact ⟨.int_bool a ta c, .int_bool a ta c, .int_bool a ta c⟩
      | int i t => cases h; exact ⟨.int_int a ta i t, .int_int a ta i t, .int_int a ta i t⟩
      | str z t => cases h; exact ⟨.int_str a ta z t, .int_str a ta z t, .int_str a ta z t⟩
      | tup p _ _ _ => cases h; exact ⟨.int_tuple a ta p hu0, .int_tuple a ta p hu0, .int_tuple a ta p hu0⟩
      | lst hl p _ _ _ => cases eqI_nl rfl hl h; exact ⟨.int_list a ta p hu0, .int_list a ta p hu0, .int_list a ta p hu0⟩
    | str a ta =>
      cases ky with
      | non => cases h; exact ⟨.str_none a ta, .str_none a ta, .str_none a ta⟩
      | bl c => cases h; exact ⟨.str_bool a ta c, .str_bool a ta c, .str_bool a ta c⟩
      | int i t => cases h; exact ⟨.str_int a ta i t, .str_int a ta i t, .str_int a ta i t⟩
      | str z t => cases h; exact ⟨.str_str a ta z t, .str_str a ta z t, .str_str a ta z t⟩
      | tup p _ _ _ => cases h; exact ⟨.str_tuple a ta p hu0, .str_tuple a ta p hu0, .str_tuple a ta p hu0⟩
      | lst hl p _ _ _ => cases eqI_nl rfl hl h; exact ⟨.str_list a ta p hu0, .str_list a ta p hu0, .str_list a ta p hu0⟩
    | @tup p1 xs vs us p rs va _ =>
      cases ky with
      | non => cases h; exact ⟨.tuple_none p hu0, .tuple_none p hu0, .tuple_none p hu0⟩
      | bl c => cases h; exact ⟨.tuple_bool c p hu0, .tuple_bool c p hu0, .tuple_bool c p hu0⟩
      | int i t => cases h; exact ⟨.tuple_int i t p hu0, .tuple_int i t p hu0, .tuple_int i t p hu0⟩
      | str z t => cases h; exact ⟨.tuple_str z t p hu0, .tuple_str z t p hu0, .tuple_str z t p hu0⟩
      | lst hl p' _ _ _ => cases eqI_nl rfl hl h; exact ⟨.tuple_list p p' hu0, .tuple_list p p' hu0, .tuple_list p p' hu0⟩
      | @tup p2 ys ws us2 p' rs' va' _ =>
        have h : (eqAll (eqI st n) xs ys).map (fun b => b && xs.length == ys.length) = some b := h
        cases hc : eqAll (eqI st n) xs ys with
        | none => rw [hc] at h; cases h
        | some c =>
          rw [hc] at h
          obtain ⟨e, k1, k2⟩ := deep hc rs rs' va va'
          have e1 : us.length = xs.length := by rw [rs.length, va.length]
          have e2 : us2.length = ys.length := by rw [rs'.length, va'.length]
          have eb : ((List.range (min us.toArray.size us2.toArray.size)).all e && us.toArray.size == us2.toArray.size) = b := by
            rw [List.size_toArray, List.size_toArray, k2, e1, e2]
            exact Option.some.inj h
          refine ref3 rfl rfl ?_ ?_
          · rw [← eb]
            exact RcAt.tuples p p' hu0 fun j h1 h2 => by simpa using k1 j (by simpa using h1) (by simpa using h2)
          · rw [← eb]
            exact RcNeAt.tuples p p' hu0 fun j h1 h2 => by simpa using k1 j (by simpa using h1) (by simpa using h2)
    | @lst x1 p1 xs vs us hl p rs va _ =>
      cases ky with
      | non => cases eqI_ln hl rfl h; exact ⟨.list_none p hu0, .list_none p hu0, .list_none p hu0⟩
      | bl c => cases eqI_ln hl rfl h; exact ⟨.list_bool c p hu0, .list_bool c p hu0, .list_bool c p hu0⟩
      | int i t => cases eqI_ln hl rfl h; exact ⟨.list_int i t p hu0, .list_int i t p hu0, .list_int i t p hu0⟩
      | str z t => cases eqI_ln hl rfl h; exact ⟨.list_str z t p hu0, .list_str z t p hu0, .list_str z t p hu0⟩
      | tup p' _ _ _ => cases eqI_ln hl rfl h; exact ⟨.list_tuple p p' hu0, .list_tuple p p' hu0, .list_tuple p p' hu0⟩
      | @lst x2 p2 ys ws us2 hl' p' rs' va' _ =>
        rw [eqI_ll hl hl'] at h
        have e1 : us.length = xs.length := by rw [rs.length, va.length]
        have e2 : us2.length = ys.length := by rw [rs'.length, va'.length]
        by_cases hlen : xs.length = ys.length
        · rw [if_pos hlen] at h
          obtain ⟨e, k1, k2⟩ := deep h rs rs' va va'
          have hsz : us.toArray.size = us2.toArray.size := by rw [List.size_toArray, List.size_toArray, e1, e2, hlen]
          have eb : (List.range us.toArray.size).all e = b := by
            rw [← k2, List.size_toArray, e1, e2, hlen, Nat.min_self]
          refine ref3 rfl rfl ?_ ?_
          · rw [← eb]
            exact RcAt.lists p p' hsz hu0 fun j h1 h2 => by simpa using k1 j (by simpa using h1) (by simpa using h2)
          · rw [← eb]
            exact RcNeAt.lists p p' hsz hu0 fun j h1 h2 => by simpa using k1 j (by simpa using h1) (by simpa using h2)
        · rw [if_neg hlen] at h
          have hsz : (us.toArray.size != us2.toArray.size) = true := by rw [List.size_toArray, List.size_toArray, e1, e2]; simpa using hlen
          cases h
          exact ref3 rfl rfl (RcAt.lists_lengths p p' hsz hu0) (RcNeAt.lists_lengths p p' hsz hu0)
end
end Sm

set_option Elab.async false
set_option linter.all false
set_option maxRecDepth 100000
set_option maxHeartbeats 4000000
namespace Sm
open L2 PySem PySem.Spec
open PySem.SeqAt (EqAt RcAt RcNeAt)
/-! ### operations by values -/
/-- a list as it lies, its items -/
def lsAt (st : Hs) (x : IV) : Option (List IV) := lstOf st x
def seqOf (st : Hs) : IV → Option (List IV)
  | .tup xs => some xs
  | x => lstOf st x
def big : Nat := 16777216
theorem big_eq : big = sizeLine := sizeLine_eq.symm
def oAdd : O2 := fun x y st => match x, y with
  | .int i, .int j => some (.int (i + j), st)
  | .str a, .str b => if a.length + b.length ≤ big then some (.str (a ++ b), st) else none
  | .tup xs, .tup ys => if xs.length + ys.length ≤ big then some (.tup (xs ++ ys), st) else none
  | .ref a, .ref b => match ioL st[a]?, ioL st[b]? with
    | some xs, some ys => if xs.length + ys.length ≤ big then some (.ref st.length, st ++ [.lst (xs ++ ys)]) else none
    | _, _ => none
  | _, _ => none
def oSub : O2 := fun x y st => match x, y with
  | .int i, .int j => some (.int (i - j), st)
  | _, _ => none
def oMul : O2 := fun x y st => match x, y with
  | .int i, .int j => if (-18446744073709551616 < i ∧ i < 18446744073709551616) ∨ (-18446744073709551616 < j ∧ j < 18446744073709551616) then some (.int (i * j), st) else none
  | _, _ => none
def oFdv : O2 := fun x y st => match x, y with
  | .int i, .int j => if 0 < j ∧ j < 1073741824 then some (.int (i / j), st) else none
  | _, _ => none
def oMod : O2 := fun x y st => match x, y with
  | .int i, .int j => if 0 < j then some (.int (i % j), st) else none
  | _, _ => none
def oPow : O2 := fun x y st => match x, y with
  | .int i, .int j => if 0 ≤ j ∧ (Builtin.Int.intBits i : Int) * j ≤ 134217728 then some (.int (i ^ j.toNat), st) else none
  | _, _ => none
def oEq : O2 := fun x y st => (eqI st 40 x y).map fun b => (.bl b, st)
def oNe : O2 := fun x y st => (eqI st 40 x y).map fun b => (.bl (!b), st)
def oLt : O2 := fun x y st => match x, y with
  | .int i, .int j => some (.bl (decide (i < j)), st)
  | _, _ => none
def oLe : O2 := fun x y st => match x, y with
  | .int i, .int j => some (.bl (decide (i ≤ j)), st)
  | _, _ => none
def oGt : O2 := fun x y st => match x, y with
  | .int i, .int j => some (.bl (decide (j < i)), st)
  | _, _ => none
def oGe : O2 := fun x y st => match x, y with
  | .int i, .int j => some (.bl (decide (j ≤ i)), st)
  | _, _ => none
/-- x among the items -/
def anyI (st : Hs) (x : IV) (xs : List IV) : Option Bool := if (xs.all fun y => (eqI st 40 y x).isSome) = true then some (xs.any fun y => eqI st 40 y x == some true) else none
def inI (st : Hs) (x y : IV) : Option Bool := match y with
  | .str z => match x with
    | .str w => if w.cps.size = 1 then some (decide (w.cps.getD 0 0 ∈ z.cps.toList)) else none
    | _ => none
  | y => (seqOf st y).bind (anyI st x)
def oIn : O2 := fun x y st => (inI st x y).map fun b => (.bl b, st)
def oNotIn : O2 := fun x y st => (inI st x y).map fun b => (.bl (!b), st)
def oIsN : O2 := fun x y st => match y with
  | .non => some (.bl (match x with | .non => true | _ => false), st)
  | _ => none
def oNotN : O2 := fun x y st => match y with
  | .non => some (.bl (match x with | .non => false | _ => true), st)
  | _ => none

section
variable {X : Cx}
theorem or_add : OpR X (binaryOp .Add) (rM2 X.K oAdd) := by
  intro pins s σ H x' y' v u Q I rx ry ⟨r, x, y, st, m, hx, hy, h⟩
  cases hx <;> cases hy <;> first
    | exact (show False from h).elim
    | skip
  · exact op_add pins s σ H _ _ v u Q I rx ry ⟨_, _, rfl, rfl, h r H _ Xt.refl m (.int _)⟩
  · rename_i a b
    unfold oAdd at h
    by_cases q : a.length + b.length ≤ big
    · simp only [if_pos q] at h
      exact op_add_str pins s σ H _ _ v u Q I rx ry ⟨_, _, rfl, rfl, by rw [← big_eq]; exact q, h r H _ Xt.refl m (.str _)⟩
    · simp only [if_neg q] at h
  · rename_i p vs xs ht hs p2 vs2 xs2 ht2 hs2
    unfold oAdd at h
    by_cases q : xs.length + xs2.length ≤ big
    · simp only [if_pos q] at h
      refine op_catA pins s σ H _ _ v u Q I rx ry ⟨_, _, _, _, rfl, rfl, ht, ht2, by rw [← big_eq, ← hs.length, ← hs2.length]; exact q, fun e => ?_, fun n e => ?_, fun n n2 p3 hp => ?_⟩
      · subst e
        cases hs
        exact h r H _ Xt.refl m (.tup ht2 hs2)
      · subst e
        cases hs2
        rw [List.append_nil] at h
        exact h r H _ Xt.refl m (.tup ht hs)
      · exact h r _ _ (Xt.aside hp) (m.aside hp) (.tup (.inl (.inl (upd_same))) (RVs.mono (Xt.aside hp) m (hs.append hs2)))
    · simp only [if_neg q] at h
  · rename_i a p hp b p2 hp2
    unfold oAdd at h
    dsimp only at h
    cases q1 : ioL st[a]? with
    | none => rw [q1] at h; exact h.elim
    | some xs =>
      cases q2 : ioL st[b]? with
      | none => rw [q1, q2] at h; exact h.elim
      | some ys =>
        rw [q1, q2] at h
        dsimp only at h
        obtain ⟨vs, e1, rs1⟩ := m.at_ a _ _ (ioL_some q1) hp
        obtain ⟨vs2, e2, rs2⟩ := m.at_ b _ _ (ioL_some q2) hp2
        by_cases q : xs.length + ys.length ≤ big
        · simp only [if_pos q] at h
          refine op_cat pins s σ H _ _ v u Q I rx ry ⟨_, _, _, _, rfl, rfl, e1, e2, by rw [← big_eq, ← rs1.length, ← rs2.length]; exact q, fun p3 h3 => ?_⟩
          exact h (r ++ [p3]) _ _ (Xt.new h3) (m.new h3 ⟨_, upd_same, RVs.mono (Xt.new h3) m (rs1.append rs2)⟩) (RV.last m)
        · simp only [if_neg q] at h
theorem or_sub : OpR X (binaryOp .Sub) (rM2 X.K oSub) := by
  intro pins s σ H x' y' v u Q I rx ry ⟨r, x, y, st, m, hx, hy, h⟩
  cases hx <;> cases hy <;> first
    | exact (show False from h).elim
    | skip
  exact op_sub pins s σ H _ _ v u Q I rx ry ⟨_, _, rfl, rfl, h r H _ Xt.refl m (.int _)⟩
theorem or_mul : OpR X (binaryOp .Mult) (rM2 X.K oMul) := by
  intro pins s σ H x' y' v u Q I rx ry ⟨r, x, y, st, m, hx, hy, h⟩
  cases hx <;> cases hy <;> first
    | exact (show False from h).elim
    | skip
  rename_i i j
  unfold oMul at h
  by_cases q : (-18446744073709551616 < i ∧ i < 18446744073709551616) ∨ (-18446744073709551616 < j ∧ j < 18446744073709551616)
  · simp only [if_pos q] at h
    exact op_mul pins s σ H _ _ v u Q I rx ry ⟨_, _, rfl, rfl, q, h r H _ Xt.refl m (.int _)⟩
  · simp only [if_neg q] at h
theorem or_fdv : OpR X (binaryOp .FloorDiv) (rM2 X.K oFdv) := by
  intro pins s σ H x' y' v u Q I rx ry ⟨r, x, y, st, m, hx, hy, h⟩
  cases hx <;> cases hy <;> first
    | exact (show False from h).elim
    | skip
  rename_i i j
  unfold oFdv at h
  by_cases q : 0 < j ∧ j < 1073741824
  · simp only [if_pos q] at h
    exact op_fdiv pins s σ H _ _ v u Q I rx ry ⟨_, _, rfl, rfl, q, h r H _ Xt.refl m (.int _)⟩
  · simp only [if_neg q] at h
theorem or_mod : OpR X (binaryOp .Mod) (rM2 X.K oMod) := by
  intro pins s σ H x' y' v u Q I rx ry ⟨r, x, y, st, m, hx, hy, h⟩
  cases hx <;> cases hy <;> first
    | exact (show False from h).elim
    | skip
  rename_i i j
  unfold oMod at h
  by_cases q : 0 < j
  · simp only [if_pos q] at h
    exact op_mod pins s σ H _ _ v u Q I rx ry ⟨_, _, rfl, rfl, q, h r H _ Xt.refl m (.int _)⟩
  · simp only [if_neg q] at h
theorem op_powW : OpR X (binaryOp .Pow) (rI (fun i j => 0 ≤ j ∧ (Builtin.Int.intBits i : Int) * j ≤ 2 ^ 27) fun i j => .int (i ^ j.toNat)) := opI fun i j _ _ _ _ _ hc q => PyProof.Rows.pow_int hc.1 hc.2 q
theorem or_pow : OpR X (binaryOp .Pow) (rM2 X.K oPow) := by
  intro pins s σ H x' y' v u Q I rx ry ⟨r, x, y, st, m, hx, hy, h⟩
  cases hx <;> cases hy <;> first
    | exact (show False from h).elim
    | skip
  rename_i i j
  unfold oPow at h
  by_cases q : 0 ≤ j ∧ (Builtin.Int.intBits i : Int) * j ≤ 134217728
  · simp only [if_pos q] at h
    exact op_powW pins s σ H _ _ v u Q I rx ry ⟨_, _, rfl, rfl, ⟨q.1, Int.le_trans q.2 (by decide)⟩, h r H _ Xt.refl m (.int _)⟩
  · simp only [if_neg q] at h
theorem or_eq (hu : X.A.units + 64 < cLine) : OpR X (compareOp .Eq) (rM2 X.K oEq) := by
  intro pins s σ H x' y' v u Q I rx ry ⟨r, x, y, st, m, hx, hy, h⟩
  unfold oEq at h
  cases q : eqI st 40 x y with
  | none => rw [q] at h; exact h.elim
  | some b =>
    rw [q] at h
    exact (eqI_at I m 40 X.A (by omega) x y b _ _ _ _ q hx hy rx ry).rc _ _ _ _ ⟨.bl b, H, I, rfl, h r H _ Xt.refl m (.bl b)⟩
theorem or_ne (hu : X.A.units + 64 < cLine) : OpR X (compareOp .NotEq) (rM2 X.K oNe) := by
  intro pins s σ H x' y' v u Q I rx ry ⟨r, x, y, st, m, hx, hy, h⟩
  unfold oNe at h
  cases q : eqI st 40 x y with
  | none => rw [q] at h; exact h.elim
  | some b =>
    rw [q] at h
    exact (eqI_at I m 40 X.A (by omega) x y b _ _ _ _ q hx hy rx ry).ne _ _ _ _ ⟨.bl (!b), H, I, rfl, h r H _ Xt.refl m (.bl (!b))⟩
theorem or_lt : OpR X (compareOp .Lt) (rM2 X.K oLt) := by
  intro pins s σ H x' y' v u Q I rx ry ⟨r, x, y, st, m, hx, hy, h⟩
  cases hx <;> cases hy <;> first
    | exact (show False from h).elim
    | skip
  exact op_lt pins s σ H _ _ v u Q I rx ry ⟨_, _, rfl, rfl, h r H _ Xt.refl m (.bl _)⟩
theorem or_le : OpR X (compareOp .LtE) (rM2 X.K oLe) := by
  intro pins s σ H x' y' v u Q I rx ry ⟨r, x, y, st, m, hx, hy, h⟩
  cases hx <;> cases hy <;> first
    | exact (show False from h).elim
    | skip
  exact op_le pins s σ H _ _ v u Q I rx ry ⟨_, _, rfl, rfl, h r H _ Xt.refl m (.bl _)⟩
theorem or_gt : OpR X (compareOp .Gt) (rM2 X.K oGt) := by
  intro pins s σ H x' y' v u Q I rx ry ⟨r, x, y, st, m, hx, hy, h⟩
  cases hx <;> cases hy <;> first
    | exact (show False from h).elim
    | skip
  exact op_gt pins s σ H _ _ v u Q I rx ry ⟨_, _, rfl, rfl, h r H _ Xt.refl m (.bl _)⟩
theorem or_ge : OpR X (compareOp .GtE) (rM2 X.K oGe) := by
  intro pins s σ H x' y' v u Q I rx ry ⟨r, x, y, st, m, hx, hy, h⟩
  cases hx <;> cases hy <;> first
    | exact (show False from h).elim
    | skip
  exact op_ge pins s σ H _ _ v u Q I rx ry ⟨_, _, rfl, rfl, h r H _ Xt.refl m (.bl _)⟩
theorem or_isN : OpR X (compareOp .Is) (rM2 X.K oIsN) := by
  intro pins s σ H x' y' v u Q I rx ry ⟨r, x, y, st, m, hx, hy, h⟩
  cases hy <;> first
    | exact (show False from h).elim
    | skip
  cases hx <;> exact op_isN pins s σ H _ _ v u Q I rx ry ⟨rfl, h r H _ Xt.refl m (.bl _)⟩
theorem or_notN : OpR X (compareOp .IsNot) (rM2 X.K oNotN) := by
  intro pins s σ H x' y' v u Q I rx ry ⟨r, x, y, st, m, hx, hy, h⟩
  cases hy <;> first
    | exact (show False from h).elim
    | skip
  cases hx <;> exact op_notN pins s σ H _ _ v u Q I rx ry ⟨rfl, h r H _ Xt.refl m (.bl _)⟩

variable {pins : List (Addr × Obj)} {s : Shared} {σ : L2.St} {H : Hp} {r : List Addr} {st : Hs}
/-- the items' answers, by their values -/
theorem any_at (I : Inv X pins σ H s) (m : Mt X.K H r st) (hu : X.A.units + 64 < cLine) {x : IV} {x' : V} {w : Value} (hx : RV X.K H r x x') (rx : RelV x' w) {xs : List IV} {b : Bool} (h : anyI st x xs = some b) {vs : List V} {us : List Value} (rs : RVs X.K H r xs vs) (va : Vals vs us) :
    ∃ e : Value → Bool, (∀ y ∈ us, EqAt X.A.in1 s y w (e y)) ∧ us.any e = b := by
  unfold anyI at h
  split at h
  · rename_i hall
    classical
    let e : Value → Bool := fun u => decide (∃ y v, RV X.K H r y v ∧ RelV v u ∧ eqI st 40 y x = some true)
    have he : ∀ {y : IV} {v : V} {u : Value}, RV X.K H r y v → RelV v u → ∀ c, eqI st 40 y x = some c → e u = c := fun {y v u} q1 q2 c q3 => by
      cases c with
      | true => exact decide_eq_true ⟨y, v, q1, q2, q3⟩
      | false =>
        refine decide_eq_false ?_
        rintro ⟨y2, v2, k1, k2, k3⟩
        have ev := RelV.inj k2 q2
        subst ev
        have ey := RV.inj I m k1 q1
        subst ey
        rw [q3] at k3
        cases k3
    refine ⟨e, ?_, ?_⟩
    · have go : ∀ {xs : List IV} {vs : List V} {us : List Value}, (xs.all fun y => (eqI st 40 y x).isSome) = true → RVs X.K H r xs vs → Vals vs us → ∀ y ∈ us, EqAt X.A.in1 s y w (e y) := by
        intro xs
        induction xs with
        | nil =>
          intro vs us _ k1 k2 y hy
          cases k1; cases k2
          cases hy
        | cons z zs ih =>
          intro vs us ha k1 k2 y hy
          cases k1 with | cons rz rzs =>
          cases k2 with | cons vz vzs =>
          rw [List.all_cons, Bool.and_eq_true] at ha
          rcases List.mem_cons.mp hy with q | q
          · subst q
            obtain ⟨c, hc⟩ := Option.isSome_iff_exists.mp ha.1
            rw [he rz vz c hc]
            exact (eqI_at I m 40 X.A.in1 (by show X.A.units + 1 + 40 < cLine; omega) z x c _ _ _ _ hc rz hx vz rx).eq
          · exact ih ha.2 rzs vzs y q
      exact go hall rs va
    · have go : ∀ {xs : List IV} {vs : List V} {us : List Value}, (xs.all fun y => (eqI st 40 y x).isSome) = true → RVs X.K H r xs vs → Vals vs us → us.any e = xs.any fun y => eqI st 40 y x == some true := by
        intro xs
        induction xs with
        | nil =>
          intro vs us _ k1 k2
          cases k1; cases k2
          rfl
        | cons z zs ih =>
          intro vs us ha k1 k2
          cases k1 with | cons rz rzs =>
          cases k2 with | cons vz vzs =>
          rw [List.all_cons, Bool.and_eq_true] at ha
          obtain ⟨c, hc⟩ := Option.isSome_iff_exists.mp ha.1
          rw [List.any_cons, List.any_cons, ih ha.2 rzs vzs, he rz vz c hc, hc]
          cases c <;> rfl
      rw [go hall rs va]
      exact Option.some.inj h
  · cases h
/-- what a list or tuple of the small heap is -/
inductive SqV (X : Cx) (s : Shared) (H : Hp) (r : List Addr) (xs : List IV) (p : Addr) : Prop where
  | l {vs : List V} {us : List Value} : SqL X.K H p vs → s.heap.IsList p us.toArray → RVs X.K H r xs vs → Vals vs us → SqV X s H r xs p
  | t {vs : List V} {us : List Value} : SqT X.K H p vs → s.heap.IsTuple p us.toArray → RVs X.K H r xs vs → Vals vs us → SqV X s H r xs p
theorem sqv_of (I : Inv X pins σ H s) (m : Mt X.K H r st) {y : IV} {y' : V} {u : Value} {xs : List IV} (h : seqOf st y = some xs) (hy : RV X.K H r y y') (ry : RelV y' u) : ∃ p, y' = .ref p ∧ u = .ref p ∧ SqV X s H r xs p := by
  cases hy with
  | tup ht hs =>
    cases h
    cases ry
    obtain ⟨its, va, pl, _⟩ := I.tuple ht
    exact ⟨_, rfl, rfl, .t ht pl hs va⟩
  | rl hl hs =>
    cases h
    cases ry
    obtain ⟨its, va, pl, _⟩ := I.list hl.sq
    exact ⟨_, rfl, rfl, .l hl.sq pl.isList hs va⟩
  | ref hp =>
    rename_i a p
    cases ry
    obtain ⟨vs, e1, rs⟩ := m.at_ a _ _ (ioL_some h) hp
    have hq : SqL X.K H p vs := .inl (.inl e1)
    obtain ⟨its, va, pl, _⟩ := I.list hq
    exact ⟨_, rfl, rfl, .l hq pl.isList rs va⟩
  | non => cases h
  | bl b => cases h
  | int i => cases h
  | str z => cases h
theorem sign_of {w : Str} (h : w.cps.size = 1) : w = ⟨#[w.cps.getD 0 0]⟩ := by
  obtain ⟨⟨l⟩⟩ := w
  cases l with
  | nil => cases h
  | cons c l =>
    cases l with
    | nil => rfl
    | cons d l => simp at h
theorem or_in (hu : X.A.units + 64 < cLine) : OpR X (compareOp .In) (rM2 X.K oIn) := by
  intro pins s σ H x' y' v u Q I rx ry ⟨r, x, y, st, m, hx, hy, h⟩
  unfold oIn at h
  cases q : inI st x y with
  | none => rw [q] at h; exact h.elim
  | some b =>
    rw [q] at h
    have fin : EP X pins σ Q (.bool b) s := ⟨.bl b, H, I, rfl, h r H _ Xt.refl m (.bl b)⟩
    have sq : (seqOf st y).bind (anyI st x) = some b → wpAny (model X.prog X.w) X.A (compareOp .In v u) (EP X pins σ Q) X.xe s := fun q => by
      cases k : seqOf st y with
      | none => rw [k] at q; cases q
      | some xs =>
        rw [k] at q
        obtain ⟨p, rfl, rfl, z⟩ := sqv_of I m k hy ry
        cases z with
        | l hq pl rs va =>
          obtain ⟨e, h1, h2⟩ := any_at I m hu hx rx q rs va
          exact SeqAt.in_listAt e pl (fun y hy => h1 y (by simpa using hy)) (by rw [List.any_toArray, h2]; exact fin)
        | t hq pl rs va =>
          obtain ⟨e, h1, h2⟩ := any_at I m hu hx rx q rs va
          exact SeqAt.in_tupleAt e pl (fun y hy => h1 y (by simpa using hy)) (by rw [List.any_toArray, h2]; exact fin)
    cases y with
    | str z =>
      cases x with
      | str w =>
        unfold inI at q
        dsimp only at q
        split at q
        · rename_i k
          cases q
          cases hx
          cases hy
          exact op_in_sign pins s σ H _ _ v u Q I rx ry ⟨_, z, congrArg V.str (sign_of k), rfl, h r H _ Xt.refl m (.bl _)⟩
        · cases q
      | _ => cases q
    | _ => exact sq q
theorem or_notIn (hu : X.A.units + 64 < cLine) : OpR X (compareOp .NotIn) (rM2 X.K oNotIn) := by
  intro pins s σ H x' y' v u Q I rx ry ⟨r, x, y, st, m, hx, hy, h⟩
  unfold oNotIn at h
  cases q : inI st x y with
  | none => rw [q] at h; exact h.elim
  | some b =>
    rw [q] at h
    have fin : EP X pins σ Q (.bool (!b)) s := ⟨.bl (!b), H, I, rfl, h r H _ Xt.refl m (.bl (!b))⟩
    have sq : (seqOf st y).bind (anyI st x) = some b → wpAny (model X.prog X.w) X.A (compareOp .NotIn v u) (EP X pins σ Q) X.xe s := fun q => by
      cases k : seqOf st y with
      | none => rw [k] at q; cases q
      | some xs =>
        rw [k] at q
        obtain ⟨p, rfl, rfl, z⟩ := sqv_of I m k hy ry
        cases z with
        | l hq pl rs va =>
          obtain ⟨e, h1, h2⟩ := any_at I m hu hx rx q rs va
          exact SeqAt.notIn_listAt e pl (fun y hy => h1 y (by simpa using hy)) (by rw [List.any_toArray, h2]; exact fin)
        | t hq pl rs va =>
          obtain ⟨e, h1, h2⟩ := any_at I m hu hx rx q rs va
          exact SeqAt.notIn_tupleAt e pl (fun y hy => h1 y (by simpa using hy)) (by rw [List.any_toArray, h2]; exact fin)
    cases y with
    | str z =>
      cases x with
      | str w =>
        unfold inI at q
        dsimp only at q
        split at q
        · rename_i k
          cases q
          cases hx
          cases hy
          exact op_notIn_sign pins s σ H _ _ v u Q I rx ry ⟨_, z, congrArg V.str (sign_of k), rfl, h r H _ Xt.refl m (.bl _)⟩
        · cases q
      | _ => cases q
    | _ => exact sq q
end
end Sm

set_option Elab.async false
set_option linter.all false
set_option maxRecDepth 100000
set_option maxHeartbeats 4000000
namespace Sm
open L2 PySem PySem.Spec
/-! ### items, slices, displays, calls of builtins -/
def oIx : O2 := fun x y st => match y with
  | .int i => match x with
    | .str z => if z.length ≤ big then (atI z.cps.toList i).map fun c => (.str ⟨#[c]⟩, st) else none
    | x => (seqOf st x).bind fun xs => (atI xs i).map fun v => (v, st)
  | _ => none
def cutI {α : Type} (xs : List α) (lo hi : Option Int) : List α := (xs.drop (HT.sIx xs.length 0 lo)).take (HT.sIx xs.length xs.length hi - HT.sIx xs.length 0 lo)
def newL (st : Hs) (xs : List IV) : Option (IV × Hs) := some (.ref st.length, st ++ [.lst xs])
def oSl (x : IV) (lo hi : Option Int) (st : Hs) : Option (IV × Hs) := match x with
  | .tup xs => some (.tup (cutI xs lo hi), st)
  | .str z => if z.length ≤ big then some (.str ⟨(cutI z.cps.toList lo hi).toArray⟩, st) else none
  | x => (lstOf st x).bind fun xs => newL st (cutI xs lo hi)
/-- a slice's ends -/
def mNo : Env → M (Option Int) := fun _ => ret none
def mPt (m : ME) : Env → M (Option Int) := fun env => bnd (m env) fun x => match x with
  | .int i => ret (some i)
  | _ => stuck
def mSl (e : ME) (lo hi : Env → M (Option Int)) : ME := fun env => bnd (e env) fun x => bnd (lo env) fun l => bnd (hi env) fun h => fun st => lf (oSl x l h st)
def maN : MA := fun _ => ret []
def maC (e : ME) (es : MA) : MA := fun env => bnd (e env) fun x => bnd (es env) fun xs => ret (x :: xs)
def mTup (es : MA) : ME := fun env => bnd (es env) fun xs => if xs.length ≤ big then ret (.tup xs) else stuck
def mLst (es : MA) : ME := fun env => bnd (es env) fun xs => if xs.length ≤ big then (fun st => lf (newL st xs)) else stuck
def mDct : ME := fun _ st => .ok (.ref st.length) (st ++ [.dct []])
/-- a function without exceptions, by its arguments -/
abbrev On := List IV → Hs → Option (IV × Hs)
def mB (f : On) (es : MA) : ME := fun env => bnd (es env) fun xs st => lf (f xs st)
def bLen : On := fun xs st => match xs with
  | [.str z] => if z.length ≤ big then some (.int z.length, st) else none
  | [x] => (seqOf st x).map fun xs => (.int xs.length, st)
  | _ => none
def bAbs : On := fun xs st => match xs with
  | [.int i] => some (.int (if i < 0 then -i else i), st)
  | _ => none
def bMax : On := fun xs st => match xs with
  | [.int i, .int j] => some (.int (if j > i then j else i), st)
  | _ => none
def bMin : On := fun xs st => match xs with
  | [.int i, .int j] => some (.int (if j < i then j else i), st)
  | _ => none
def bInt : On := fun xs st => match xs with
  | [.int i] => some (.int i, st)
  | [.bl k] => some (.int (if k then 1 else 0), st)
  | _ => none
def bList : On := fun xs st => match xs with
  | [x] => (seqOf st x).bind fun xs => newL st xs
  | _ => none
def bTuple : On := fun xs st => match xs with
  | [x] => (seqOf st x).map fun xs => (.tup xs, st)
  | _ => none
def blsOf : List IV → Option (List Bool)
  | [] => some []
  | .bl b :: xs => (blsOf xs).map (b :: ·)
  | _ :: _ => none
def bAll : On := fun xs st => match xs with
  | [x] => (lstOf st x).bind fun xs => (blsOf xs).map fun bs => (.bl (bs.all id), st)
  | _ => none
def bAny : On := fun xs st => match xs with
  | [x] => (lstOf st x).bind fun xs => (blsOf xs).map fun bs => (.bl (bs.any id), st)
  | _ => none
/-- a value's type by name -/
def tyName (st : Hs) : IV → Option String
  | .non => some "NoneType"
  | .bl _ => some "bool"
  | .int _ => some "int"
  | .str _ => some "str"
  | .tup _ => some "tuple"
  | .rl _ => some "list"
  | .ref a => match st[a]? with
    | some (.lst _) => some "list"
    | some (.dct _) => some "dict"
    | none => none
def subTy (s t : String) : Bool := s == t || (s == "bool" && t == "int")
def mIsi (T : String) (e : ME) : ME := fun env => bnd (e env) fun x st => lf ((tyName st x).map fun s => (.bl (subTy s T), st))
def strsOf : List IV → Option (List Str)
  | [] => some []
  | .str b :: xs => (strsOf xs).map (b :: ·)
  | _ :: _ => none
def oJoin : O2 := fun x y st => match x with
  | .str a => (seqOf st y).bind fun xs => (strsOf xs).bind fun ys => if (ys.map (·.length)).sum + ys.length * a.length ≤ big then some (.str (Txt.join a ys), st) else none
  | _ => none
def mJoin (o e : ME) : ME := fun env => bnd (o env) fun x => match x with
  | .str a => bnd (e env) fun y st => lf (oJoin (.str a) y st)
  | _ => stuck
/-- o.m(..) of a list -/
def mMth (f : IV → On) (o : ME) (es : MA) : ME := fun env => bnd (o env) fun x => bnd (fun st => match ioL (match x with | .ref a => st[a]? | _ => none) with | some _ => .ok () st | none => .no) fun _ => bnd (es env) fun xs st => lf (f x xs st)
def tAppend : IV → On := fun x vs st => match x, vs with
  | .ref a, [v] => (ioL st[a]?).bind fun xs => if xs.length < big then some (.non, st.set a (.lst (xs ++ [v]))) else none
  | _, _ => none
def tPop : IV → On := fun x vs st => match x, vs with
  | .ref a, [.int i] => (ioL st[a]?).bind fun xs => if -9223372036854775808 ≤ i ∧ i < 9223372036854775808 then (seqIndex? i xs.length).bind fun k => (xs[k]?).map fun y => (y, st.set a (.lst (xs.eraseIdx k))) else none
  | _, _ => none

section
variable {X : Cx} {W : WX} {pos : Pos}
section
variable {pins : List (Addr × Obj)} {s : Shared} {σ : L2.St} {H : Hp} {r : List Addr} {st : Hs}
/-- a list or tuple of the small heap, as an address -/
theorem seq_at (m : Mt X.K H r st) {y : IV} {y' : V} {xs : List IV} (h : seqOf st y = some xs) (hy : RV X.K H r y y') : ∃ p vs, y' = .ref p ∧ (SqL X.K H p vs ∨ SqT X.K H p vs) ∧ RVs X.K H r xs vs := by
  cases hy with
  | tup ht hs => cases h; exact ⟨_, _, rfl, .inr ht, hs⟩
  | rl hl hs => cases h; exact ⟨_, _, rfl, .inl hl.sq, hs⟩
  | ref hp =>
    obtain ⟨vs, e1, rs⟩ := m.at_ _ _ _ (ioL_some h) hp
    exact ⟨_, vs, rfl, .inl (.inl (.inl e1)), rs⟩
  | non => cases h
  | bl b => cases h
  | int i => cases h
  | str z => cases h
theorem lst_at (m : Mt X.K H r st) {y : IV} {y' : V} {xs : List IV} (h : lstOf st y = some xs) (hy : RV X.K H r y y') : ∃ p vs, y' = .ref p ∧ SqL X.K H p vs ∧ RVs X.K H r xs vs := by
  cases hy with
  | tup ht hs => cases h
  | rl hl hs => cases h; exact ⟨_, _, rfl, hl.sq, hs⟩
  | ref hp =>
    obtain ⟨vs, e1, rs⟩ := m.at_ _ _ _ (ioL_some h) hp
    exact ⟨_, vs, rfl, .inl (.inl e1), rs⟩
  | non => cases h
  | bl b => cases h
  | int i => cases h
  | str z => cases h
theorem rvs_atI {xs : List IV} {vs : List V} {i : Int} {x : IV} (rs : RVs X.K H r xs vs) (h : atI xs i = some x) : ∃ v, atI vs i = some v ∧ RV X.K H r x v := by
  unfold atI at h ⊢
  rw [rs.length] at h
  cases e : ixN vs.length i with
  | none => rw [e] at h; cases h
  | some j =>
    rw [e] at h
    obtain ⟨v, h1, h2⟩ := rs.get h
    exact ⟨v, h1, h2⟩
theorem rvs_cut {xs : List IV} {vs : List V} (rs : RVs X.K H r xs vs) (lo hi : Option Int) : RVs X.K H r (cutI xs lo hi) (cutV vs lo hi) := by
  unfold cutI cutV
  rw [rs.length]
  exact (rs.drop _).take _
end
theorem xr_ix : IxR X (rM2 X.K oIx) := by
  intro value slice pins s σ H x' y' v u Q I rx ry ⟨r, x, y, st, m, hx, hy, h⟩ hs
  cases y with
  | int i =>
    cases hy
    have sq : (seqOf st x).bind (fun xs => (atI xs i).map fun v => (v, st)) = oIx x (.int i) st → wpAny (model X.prog X.w) X.A (PyProof.Rows.subscriptTail value slice v u) (EP X pins σ Q) X.xe s := fun e => by
      rw [← e] at h
      cases k : seqOf st x with
      | none => rw [k] at h; exact h.elim
      | some xs =>
        rw [k] at h
        obtain ⟨p, vs, rfl, hq, rs⟩ := seq_at m k hx
        cases k2 : atI xs i with
        | none =>
          have h : (match (atI xs i).map (fun v => (v, st)) with | some (z, st') => ∀ r' H' v, Xt r H r' H' → Mt X.K H' r' st' → RV X.K H' r' z v → Q v H' | none => False) := h
          rw [k2] at h; exact h.elim
        | some z =>
          have h : (match (atI xs i).map (fun v => (v, st)) with | some (z, st') => ∀ r' H' v, Xt r H r' H' → Mt X.K H' r' st' → RV X.K H' r' z v → Q v H' | none => False) := h
          rw [k2] at h
          obtain ⟨w, e1, rw1⟩ := rvs_atI rs k2
          rcases hq with hq | hq
          · exact ix_list value slice pins s σ H _ _ v u Q I rx ry ⟨_, _, _, _, rfl, rfl, hq, e1, h r H w Xt.refl m rw1⟩ hs
          · exact ix_tup value slice pins s σ H _ _ v u Q I rx ry ⟨_, _, _, _, rfl, rfl, hq, e1, h r H w Xt.refl m rw1⟩ hs
    cases x with
    | str z =>
      cases hx
      unfold oIx at h
      dsimp only at h
      by_cases q : z.length ≤ big
      · rw [if_pos q] at h
        cases k : atI z.cps.toList i with
        | none => rw [k] at h; exact h.elim
        | some c =>
          rw [k] at h
          exact ix_str value slice pins s σ H _ _ v u Q I rx ry ⟨_, _, _, rfl, rfl, by rw [← big_eq]; exact q, k, h r H _ Xt.refl m (.str _)⟩ hs
      · rw [if_neg q] at h; exact h.elim
    | _ => exact sq rfl
  | _ => exact (show False from h).elim
variable {a b c o e : Expr} {ma mb mc mo : ME} {es : List Expr} {me : MA}
theorem pem_ix (ha : PEm X W a ma) (hb : PEm X W b mb) (hs : PlainIx b := by intro _ _; rfl) : PEm X W (.Subscript a b pos) (mBin oIx ma mb) :=
  PE.weak (pe_ix xr_ix ha hb hs) fun σ H Q ⟨r, env, st, he, hm, h⟩ => ⟨r, env, st, he, hm, h.split.imp fun v H1 ⟨x, r1, st1, x1, m1, rv, h1⟩ =>
    ⟨r1, env, st1, he.mono x1 hm, m1, h1.split.imp fun v2 H2 ⟨y, r2, st2, x2, m2, rv2, h2⟩ => rM2_of m2 (rv.mono x2 m1) rv2 h2⟩⟩
/-! slices -/
abbrev MO := Env → M (Option Int)
abbrev rO : Hp → List Addr → Option Int → Option Int → Prop := fun _ _ a b => a = b
abbrev tO (X : Cx) (W : WX) (m : MO) : TO := tG X W rO m
abbrev POm (X : Cx) (W : WX) (e : Option Expr) (m : MO) : Prop := PO X e (tO X W m)
theorem PO.weak {e : Option Expr} {t t' : TO} (h : PO X e t) (i : ∀ σ H Q, t' σ H Q → t σ H Q) : PO X e t' := ⟨fun pins s σ H Q I q => h.run pins s σ H Q I (i σ H Q q)⟩
theorem pom_no : POm X W none mNo := PO.weak po_none fun σ H Q ⟨r, env, st, he, hm, h⟩ => h r H none Xt.refl hm rfl
theorem pom_at (ha : PEm X W a ma) : POm X W (some a) (mPt ma) := PO.weak (po_some ha) fun σ H Q ⟨r, env, st, he, hm, h⟩ => ⟨r, env, st, he, hm, h.split.imp fun v H1 ⟨x, r1, st1, x1, m1, rv, h1⟩ => by
  cases rv with
  | int i => exact ⟨i, rfl, h1 r1 H1 (some i) Xt.refl m1 rfl⟩
  | _ => exact h1.elim⟩
def rMS (K : PySem.W.Frag) : V → Option Int → Option Int → Hp → VK → Prop := fun x' lo hi H Q => ∃ r x st, Mt K H r st ∧ RV K H r x x' ∧ match oSl x lo hi st with
  | some (z, st') => ∀ r' H' v, Xt r H r' H' → Mt K H' r' st' → RV K H' r' z v → Q v H'
  | none => False
theorem cutS_eq (z : Str) (lo hi : Option Int) : cutS z lo hi = ⟨(cutI z.cps.toList lo hi).toArray⟩ := by
  first
    | rfl
    | (unfold cutS cutI; simp [Str.length])
theorem sr_sl : L2.SlR X (rMS X.K) := by
  intro pins s σ H x' v vl vu lo hi sl Q I rx hs pl pu ⟨r, x, st, m, hx, h⟩
  have sq : (lstOf st x).bind (fun xs => newL st (cutI xs lo hi)) = oSl x lo hi st → ∃ T id, typeLookup (.type T) "__getitem__" = pure (some (.builtin id)) ∧ s.TypeIs v T ∧ wpAny (model X.prog X.w) X.A (getItem v (.ref sl)) (EP X pins σ Q) X.xe s := fun e => by
    rw [← e] at h
    cases k : lstOf st x with
    | none => rw [k] at h; exact h.elim
    | some xs =>
      rw [k] at h
      obtain ⟨p, vs, rfl, hq, rs⟩ := lst_at m k hx
      exact sl_list pins s σ H _ v vl vu lo hi sl Q I rx hs pl pu ⟨_, _, rfl, hq, fun p3 h3 => h (r ++ [p3]) _ _ (Xt.new h3) (m.new h3 ⟨_, upd_same, RVs.mono (Xt.new h3) m (rvs_cut rs lo hi)⟩) (RV.last m)⟩
  cases x with
  | tup xs =>
    cases hx
    rename_i p vs ht rs
    refine sl_tupA pins s σ H _ v vl vu lo hi sl Q I rx hs pl pu ⟨_, _, rfl, ht, fun e => ?_, fun e p3 h3 => ?_⟩
    · have ec : cutI xs lo hi = xs := by
        unfold cutI
        rw [rs.length, e.1, e.2, List.drop_zero, Nat.sub_zero, ← rs.length, List.take_length]
      have h : (match some (IV.tup (cutI xs lo hi), st) with | some (z, st') => ∀ r' H' v, Xt r H r' H' → Mt X.K H' r' st' → RV X.K H' r' z v → Q v H' | none => False) := h
      rw [ec] at h
      exact h r H _ Xt.refl m (.tup ht rs)
    · exact h r _ _ (Xt.aside h3) (m.aside h3) (.tup (.inl (.inl upd_same)) (RVs.mono (Xt.aside h3) m (rvs_cut rs lo hi)))
  | str z =>
    cases hx
    unfold oSl at h
    dsimp only at h
    by_cases q : z.length ≤ big
    · rw [if_pos q] at h
      exact sl_str pins s σ H _ v vl vu lo hi sl Q I rx hs pl pu ⟨_, rfl, by rw [← big_eq]; exact q, by rw [cutS_eq]; exact h r H _ Xt.refl m (.str _)⟩
    · rw [if_neg q] at h; exact h.elim
  | _ => exact sq rfl
theorem pem_sl {lo hi : Option Expr} {ml mh : MO} {p2 : Pos} (ha : PEm X W a ma) (hl : POm X W lo ml) (hh : POm X W hi mh) : PEm X W (.Subscript a (.Slice lo hi none p2) pos) (mSl ma ml mh) :=
  PE.weak (pe_slice sr_sl ha hl hh) fun σ H Q ⟨r, env, st, he, hm, h⟩ => ⟨r, env, st, he, hm, h.split.imp fun v H1 ⟨x, r1, st1, x1, m1, rv, h1⟩ =>
    ⟨r1, env, st1, he.mono x1 hm, m1, (h1.split (rel := rO)).imp fun v2 H2 ⟨l, r2, st2, x2, m2, e2, h2⟩ => by
      subst e2
      exact ⟨r2, env, st2, (he.mono x1 hm).mono x2 m1, m2, (h2.split (rel := rO)).imp fun v3 H3 ⟨l3, r3, st3, x3, m3, e3, h3⟩ => by
        subst e3
        refine ⟨r3, x, st3, m3, (rv.mono x2 m1).mono x3 m2, ?_⟩
        cases q : oSl x l l3 st3 with
        | none => rw [q] at h3; exact h3
        | some p => rw [q] at h3; exact h3⟩⟩⟩
/-! displays -/
theorem pam_nil : PAm X W [] maN := PA.weak pa_nil fun σ H Q ⟨r, env, st, he, hm, h⟩ => h r H [] Xt.refl hm .nil
theorem pam_cons (ha : PEm X W e ma) (hr : PAm X W es me) (hs : starEach (e :: es) X.env = (false, eval e X.env) :: starEach es X.env := by rfl) : PAm X W (e :: es) (maC ma me) :=
  PA.weak (pa_cons ha hr hs) fun σ H Q ⟨r, env, st, he, hm, h⟩ => ⟨r, env, st, he, hm, (h.split (rel := rV X.K)).imp fun v H1 ⟨x, r1, st1, x1, m1, rv, h1⟩ =>
    ⟨r1, env, st1, he.mono x1 hm, m1, (h1.split (rel := rVs X.K)).imp fun vs H2 ⟨xs, r2, st2, x2, m2, rvs, h2⟩ => h2 r2 H2 _ Xt.refl m2 (.cons (rv.mono x2 m1) rvs)⟩⟩
theorem pem_tup {x1 : Nat} (h : PAm X W es me) : PEm X W (.Tuple es x1 pos) (mTup me) :=
  PE.weak (pe_tup h) fun σ H Q ⟨r, env, st, he, hm, h⟩ => ⟨r, env, st, he, hm, (h.split (rel := rVs X.K)).imp fun vs H1 ⟨xs, r1, st1, x1, m1, rs, h1⟩ => by
    by_cases q : xs.length ≤ big
    · rw [if_pos q] at h1
      exact ⟨by rw [← big_eq, ← rs.length]; exact q, fun p hp => h1 r1 _ _ (Xt.aside hp) (m1.aside hp) (.tup (.inl (.inl upd_same)) (RVs.mono (Xt.aside hp) m1 rs))⟩
    · rw [if_neg q] at h1; exact h1.elim⟩
theorem pem_lst (h : PAm X W es me) : PEm X W (.List es pos) (mLst me) :=
  PE.weak (pe_lst h) fun σ H Q ⟨r, env, st, he, hm, h⟩ => ⟨r, env, st, he, hm, (h.split (rel := rVs X.K)).imp fun vs H1 ⟨xs, r1, st1, x1, m1, rs, h1⟩ => by
    by_cases q : xs.length ≤ big
    · rw [if_pos q] at h1
      exact ⟨by rw [← big_eq, ← rs.length]; exact q, fun p hp => h1 (r1 ++ [p]) _ _ (Xt.new hp) (m1.new hp ⟨_, upd_same, RVs.mono (Xt.new hp) m1 rs⟩) (RV.last m1)⟩
    · rw [if_neg q] at h1; exact h1.elim⟩
theorem pem_dct : PEm X W (.Dict [] [] pos) mDct :=
  PE.weak pe_dnewK fun σ H Q ⟨r, env, st, he, hm, h⟩ => fun p hp => h (r ++ [p]) _ _ (Xt.new hp) (hm.new hp ⟨rfl, upd_same⟩) (RV.last hm)
/-! calls of builtins -/
def rMs (K : PySem.W.Frag) (f : On) : List V → Hp → VK → Prop := fun vs H Q => ∃ r xs st, Mt K H r st ∧ RVs K H r xs vs ∧ match f xs st with
  | some (z, st') => ∀ r' H' v, Xt r H r' H' → Mt K H' r' st' → RV K H' r' z v → Q v H'
  | none => False
theorem rMs_of {f : On} {σ : L2.St} {r : List Addr} {H : Hp} {xs : List IV} {vs : List V} {st : Hs} {Q : VK} (m : Mt X.K H r st) (rs : RVs X.K H r xs vs) (h : Aft X W σ (rV X.K) r H (lf (f xs st)) Q) : rMs X.K f vs H Q := by
  refine ⟨r, xs, st, m, rs, ?_⟩
  cases q : f xs st with
  | none => rw [q] at h; exact h
  | some p => rw [q] at h; exact h
theorem tCB_of {f : On} {σ : L2.St} {H : Hp} {Q : VK} (h : tE X W (mB f me) σ H Q) : tCB (rMs X.K f) (tA X W me) σ H Q := by
  obtain ⟨r, env, st, he, hm, h⟩ := h
  exact ⟨r, env, st, he, hm, h.split.imp fun vs H1 ⟨xs, r1, st1, x1, m1, rs, h1⟩ => rMs_of m1 rs h1⟩
theorem pem_callB {x : Str} {id : String} {f : On} {p : Pos} (hc : CallR X (.builtin id) (rMs X.K f)) (ha : PAm X W (e :: es) me) (hg : Gl X x) (hm : X.mg x = none) (hv : bootBuiltins x = some (.builtin id)) (hn : x ≠ "__name__" := by decide) (hdb : (x == ("__debug__" : Str)) = false := by decide)
    (he : starEach (e :: es) X.env = (false, eval e X.env) :: starEach es X.env := by rfl) (hpl : (backTo pos (starEach es X.env)).any (·.1) = false := by rfl) : PEm X W (.Call (.Name x p) (e :: es) [] pos) (mB f me) :=
  PE.weak (pe_callB hc hg hm hv ha hn hdb he hpl) fun σ H Q h => tCB_of h
theorem pem_callTy {x : Str} {T : String} {f : On} {p : Pos} (hc : CallR X (.type T) (rMs X.K f)) (ha : PAm X W (e :: es) me) (hg : Gl X x) (hm : X.mg x = none) (hv : bootBuiltins x = some (.type T)) (hn : x ≠ "__name__" := by decide) (hdb : (x == ("__debug__" : Str)) = false := by decide)
    (he : starEach (e :: es) X.env = (false, eval e X.env) :: starEach es X.env := by rfl) (hpl : (backTo pos (starEach es X.env)).any (·.1) = false := by rfl) : PEm X W (.Call (.Name x p) (e :: es) [] pos) (mB f me) :=
  PE.weak (pe_callTy hc hg hm hv ha hn hdb he hpl) fun σ H Q h => tCB_of h
theorem CallR.weak {f : Value} {r r' : List V → Hp → VK → Prop} (h : CallR X f r) (i : ∀ xs H Q, r' xs H Q → r xs H Q) : CallR X f r' := fun pins s σ H xs us Q I rv q => h pins s σ H xs us Q I rv (i xs H Q q)
theorem rvs_one {K : PySem.W.Frag} {H : Hp} {r : List Addr} {x : IV} {vs : List V} (h : RVs K H r [x] vs) : ∃ v, vs = [v] ∧ RV K H r x v := by
  cases h with
  | cons a t => cases t; exact ⟨_, rfl, a⟩
theorem rvs_two {K : PySem.W.Frag} {H : Hp} {r : List Addr} {x y : IV} {vs : List V} (h : RVs K H r [x, y] vs) : ∃ v w, vs = [v, w] ∧ RV K H r x v ∧ RV K H r y w := by
  cases h with
  | cons a t => cases t with
    | cons b t => cases t; exact ⟨_, _, rfl, a, b⟩
theorem rMs_inv {K : PySem.W.Frag} {f : On} {vs : List V} {H : Hp} {Q : VK} (h : rMs K f vs H Q) : ∃ r xs st z st', f xs st = some (z, st') ∧ RVs K H r xs vs ∧ Mt K H r st ∧ ∀ r' H' v, Xt r H r' H' → Mt K H' r' st' → RV K H' r' z v → Q v H' := by
  obtain ⟨r, xs, st, m, rs, h⟩ := h
  cases e : f xs st with
  | none => rw [e] at h; exact h.elim
  | some p =>
    rw [e] at h
    exact ⟨r, xs, st, p.1, p.2, e, rs, m, h⟩
theorem cb_len : CallR X (.builtin "len") (rMs X.K bLen) := CallR.weak call_len fun vs H Q h0 => by
  obtain ⟨r, xs, st, z, st', e, rs, m, h⟩ := rMs_inv h0
  revert e rs
  unfold bLen
  split <;> intro e rs
  · rename_i z
    obtain ⟨v, rfl, rv⟩ := rvs_one rs
    cases rv
    by_cases q : z.length ≤ big
    · rw [if_pos q] at e
      cases e
      exact ⟨_, z.length, rfl, ⟨by rw [← big_eq]; exact q, rfl⟩, h r H _ Xt.refl m (.int _)⟩
    · rw [if_neg q] at e; cases e
  · rename_i x n
    obtain ⟨v, rfl, rx⟩ := rvs_one rs
    cases k : seqOf st x with
    | none => rw [k] at e; cases e
    | some ys =>
      rw [k] at e
      cases e
      obtain ⟨p, ws, rfl, hq, rs⟩ := seq_at m k rx
      refine ⟨_, ws.length, rfl, ?_, by rw [← rs.length]; exact h r H _ Xt.refl m (.int _)⟩
      rcases hq with hq | hq
      · exact .inl ⟨_, hq, rfl⟩
      · exact .inr ⟨_, hq, rfl⟩
  · cases e
theorem cb_abs : CallR X (.builtin "abs") (rMs X.K bAbs) := CallR.weak call_abs fun vs H Q h0 => by
  obtain ⟨r, xs, st, z, st', e, rs, m, h⟩ := rMs_inv h0
  revert e rs
  unfold bAbs
  split <;> intro e rs
  · obtain ⟨v, rfl, rv⟩ := rvs_one rs
    cases rv
    cases e
    exact ⟨_, rfl, h r H _ Xt.refl m (.int _)⟩
  · cases e
theorem cb_max (hc : X.calm = true) : CallR X (.builtin "max") (rMs X.K bMax) := CallR.weak (call_max2 hc) fun vs H Q h0 => by
  obtain ⟨r, xs, st, z, st', e, rs, m, h⟩ := rMs_inv h0
  revert e rs
  unfold bMax
  split <;> intro e rs
  · obtain ⟨v, w, rfl, rv, rw⟩ := rvs_two rs
    cases rv
    cases rw
    cases e
    exact ⟨_, _, rfl, h r H _ Xt.refl m (.int _)⟩
  · cases e
theorem cb_min (hc : X.calm = true) : CallR X (.builtin "min") (rMs X.K bMin) := CallR.weak (call_min2 hc) fun vs H Q h0 => by
  obtain ⟨r, xs, st, z, st', e, rs, m, h⟩ := rMs_inv h0
  revert e rs
  unfold bMin
  split <;> intro e rs
  · obtain ⟨v, w, rfl, rv, rw⟩ := rvs_two rs
    cases rv
    cases rw
    cases e
    exact ⟨_, _, rfl, h r H _ Xt.refl m (.int _)⟩
  · cases e
theorem ct_int : CallR X (.type "int") (rMs X.K bInt) := CallR.weak call_int1 fun vs H Q h0 => by
  obtain ⟨r, xs, st, z, st', e, rs, m, h⟩ := rMs_inv h0
  revert e rs
  unfold bInt
  split <;> intro e rs
  · obtain ⟨v, rfl, rv⟩ := rvs_one rs
    cases rv
    cases e
    exact .inl ⟨_, rfl, h r H _ Xt.refl m (.int _)⟩
  · obtain ⟨v, rfl, rv⟩ := rvs_one rs
    cases rv
    cases e
    exact .inr ⟨_, rfl, h r H _ Xt.refl m (.int _)⟩
  · cases e
theorem ct_list : CallR X (.type "list") (rMs X.K bList) := CallR.weak call_list_of fun vs H Q h0 => by
  obtain ⟨r, xs, st, z, st', e, rs, m, h⟩ := rMs_inv h0
  revert e rs
  unfold bList
  split <;> intro e rs
  · rename_i x
    obtain ⟨v, rfl, rv⟩ := rvs_one rs
    cases k : seqOf st x with
    | none => rw [k] at e; cases e
    | some ys =>
      rw [k] at e
      cases e
      obtain ⟨p, ws, rfl, hq, rs⟩ := seq_at m k rv
      exact ⟨_, _, rfl, hq, fun p3 h3 => h (r ++ [p3]) _ _ (Xt.new h3) (m.new h3 ⟨_, upd_same, RVs.mono (Xt.new h3) m rs⟩) (RV.last m)⟩
  · cases e
theorem ct_tuple : CallR X (.type "tuple") (rMs X.K bTuple) := CallR.weak call_tuple_of fun vs H Q h0 => by
  obtain ⟨r, xs, st, z, st', e, rs, m, h⟩ := rMs_inv h0
  revert e rs
  unfold bTuple
  split <;> intro e rs
  · rename_i x
    obtain ⟨v, rfl, rv⟩ := rvs_one rs
    cases k : seqOf st x with
    | none => rw [k] at e; cases e
    | some ys =>
      rw [k] at e
      cases e
      obtain ⟨p, ws, rfl, hq, rs⟩ := seq_at m k rv
      refine ⟨_, ws, rfl, ?_⟩
      rcases hq with hq | hq
      · exact .inl ⟨hq, fun p3 h3 => h r _ _ (Xt.aside h3) (m.aside h3) (.tup (.inl (.inl upd_same)) (RVs.mono (Xt.aside h3) m rs))⟩
      · exact .inr ⟨hq, h r H _ Xt.refl m (.tup hq rs)⟩
  · cases e
theorem bls_at {K : PySem.W.Frag} {H : Hp} {r : List Addr} : ∀ {xs : List IV} {bs : List Bool} {vs : List V}, blsOf xs = some bs → RVs K H r xs vs → vs = bs.map V.bl
  | [], _, _, h, .nil => by cases h; rfl
  | .bl b :: xs, bs, _, h, .cons q t => by
    cases q
    unfold blsOf at h
    cases k : blsOf xs with
    | none => rw [k] at h; cases h
    | some cs =>
      rw [k] at h
      cases h
      rw [bls_at k t]
      rfl
  | .non :: _, _, _, h, _ => by cases h
  | .int _ :: _, _, _, h, _ => by cases h
  | .str _ :: _, _, _, h, _ => by cases h
  | .tup _ :: _, _, _, h, _ => by cases h
  | .rl _ :: _, _, _, h, _ => by cases h
  | .ref _ :: _, _, _, h, _ => by cases h
theorem cb_all (hc : X.calm = true) : CallR X (.builtin "all") (rMs X.K bAll) := CallR.weak (cr_all hc) fun vs H Q h0 => by
  obtain ⟨r, xs, st, z, st', e, rs, m, h⟩ := rMs_inv h0
  revert e rs
  unfold bAll
  split <;> intro e rs
  · rename_i x
    obtain ⟨v, rfl, rv⟩ := rvs_one rs
    cases k : lstOf st x with
    | none => rw [k] at e; cases e
    | some ys =>
      rw [k] at e
      cases k2 : blsOf ys with
      | none => simp only [Option.bind_some, k2] at e; cases e
      | some bs =>
        simp only [Option.bind_some, k2] at e
        cases e
        obtain ⟨p, ws, rfl, hq, rs⟩ := lst_at m k rv
        have e := bls_at k2 rs
        subst e
        exact ⟨_, bs, rfl, hq, h r H _ Xt.refl m (.bl _)⟩
  · cases e
theorem cb_any (hc : X.calm = true) : CallR X (.builtin "any") (rMs X.K bAny) := CallR.weak (cr_any hc) fun vs H Q h0 => by
  obtain ⟨r, xs, st, z, st', e, rs, m, h⟩ := rMs_inv h0
  revert e rs
  unfold bAny
  split <;> intro e rs
  · rename_i x
    obtain ⟨v, rfl, rv⟩ := rvs_one rs
    cases k : lstOf st x with
    | none => rw [k] at e; cases e
    | some ys =>
      rw [k] at e
      cases k2 : blsOf ys with
      | none => simp only [Option.bind_some, k2] at e; cases e
      | some bs =>
        simp only [Option.bind_some, k2] at e
        cases e
        obtain ⟨p, ws, rfl, hq, rs⟩ := lst_at m k rv
        have e := bls_at k2 rs
        subst e
        exact ⟨_, bs, rfl, hq, h r H _ Xt.refl m (.bl _)⟩
  · cases e
/-! isinstance -/
theorem ty_at {H : Hp} {r : List Addr} {st : Hs} (m : Mt X.K H r st) {x : IV} {v : V} {t : String} (h : tyName st x = some t) (rv : RV X.K H r x v) : TyX X.K H v (.type t) := by
  cases rv with
  | non => cases h; exact .base .non
  | bl b => cases h; exact .base (.bl b)
  | int i => cases h; exact .base (.int i)
  | str z => cases h; exact .base (.str z)
  | tup ht rs =>
    cases h
    rcases ht with (ht | ⟨o, ht⟩) | ⟨o, its, n, e, c, _⟩
    · exact .base (.tup ht)
    · exact .fTuple ht
    · exact .kTuple e c
  | rl hl rs =>
    cases h
    rcases hl with ⟨o, e⟩ | ⟨o, its, n, e, c, _⟩
    · exact .base (.frz e)
    · exact .kList e c
  | ref hp =>
    rename_i a p
    unfold tyName at h
    dsimp only at h
    split at h
    · rename_i k
      cases h
      obtain ⟨vs, e1, _⟩ := m.at_ _ _ _ k hp
      exact .base (.lst e1)
    · rename_i k
      cases h
      obtain ⟨_, e1⟩ := m.at_ _ _ _ k hp
      exact .base (.dK e1)
    · cases h
theorem pem_isi {T : String} {xT : Str} {p p2 : Pos} (ha : PEm X W a ma) (hg : Gl X "isinstance") (hm : X.mg "isinstance" = none) (gT : Gl X xT) (mT : X.mg xT = none) (vT : bootBuiltins xT = some (.type T))
    (kit : ∀ t, t ∈ ["NoneType", "bool", "int", "str", "tuple", "list", "dict"] → kitB t T = some (subTy t T)) (hn : xT ≠ "__name__" := by decide) (hdb : (xT == ("__debug__" : Str)) = false := by decide)
    (s1 : starEach [a, .Name xT p2] X.env = (false, eval a X.env) :: starEach [.Name xT p2] X.env := by rfl) (s2 : starEach [.Name xT p2] X.env = (false, eval (.Name xT p2) X.env) :: starEach [] X.env := by rfl)
    (hpl : (backTo pos (starEach [.Name xT p2] X.env)).any (·.1) = false := by rfl) : PEm X W (.Call (.Name "isinstance" p) [a, .Name xT p2] [] pos) (mIsi T ma) :=
  PE.weak (pe_callB call_isi hg hm (by rfl) (pa_cons ha (pa_cons (pe_bltn gT mT vT (v := .ty T) rfl hn hdb) pa_nil s2) s1) (by decide) (by decide) s1 hpl) fun σ H Q ⟨r, env, st, he, hm, h⟩ => ⟨r, env, st, he, hm, h.split.imp fun v H1 ⟨x, r1, st1, x1, m1, rv, h1⟩ => by
    cases k : tyName st1 x with
    | none => rw [k] at h1; exact h1.elim
    | some t =>
      rw [k] at h1
      refine ⟨v, .ty T, .type t, .type T, subTy t T, rfl, .ty T, ty_at m1 k rv, kit_ty (kit t ?_), h1 r1 H1 _ Xt.refl m1 (.bl _)⟩
      cases x with
      | ref a =>
        unfold tyName at k
        dsimp only at k
        split at k
        · cases k; decide
        · cases k; decide
        · cases k
      | _ => cases k; decide⟩
/-! ' '.join(..) -/
theorem strs_at {K : PySem.W.Frag} {H : Hp} {r : List Addr} : ∀ {xs : List IV} {bs : List Str} {vs : List V}, strsOf xs = some bs → RVs K H r xs vs → vs = bs.map V.str
  | [], _, _, h, .nil => by cases h; rfl
  | .str b :: xs, bs, _, h, .cons q t => by
    cases q
    unfold strsOf at h
    cases k : strsOf xs with
    | none => rw [k] at h; cases h
    | some cs =>
      rw [k] at h
      cases h
      rw [strs_at k t]
      rfl
  | .non :: _, _, _, h, _ => by cases h
  | .int _ :: _, _, _, h, _ => by cases h
  | .bl _ :: _, _, _, h, _ => by cases h
  | .tup _ :: _, _, _, h, _ => by cases h
  | .rl _ :: _, _, _, h, _ => by cases h
  | .ref _ :: _, _, _, h, _ => by cases h
theorem pem_join {apos : Pos} (ho : PEm X W o mo) (he : PEm X W e ma) (hs : starEach [e] X.env = [(false, eval e X.env)] := by rfl) (hbase : attributeBase o "join" X.env (eval o X.env) = eval o X.env := by rfl) (hline : (apos.endLine == pos.line) = true := by rfl) :
    PEm X W (.Call (.Attribute o "join" apos) [e] [] pos) (mJoin mo ma) :=
  PE.weak (L2.pe_join ho he hs hbase hline) fun σ H Q ⟨r, env, st, he, hm, h⟩ => ⟨r, env, st, he, hm, h.split.imp fun v H1 ⟨x, r1, st1, x1, m1, rv, h1⟩ => by
    cases x with
    | str a =>
      cases rv
      refine ⟨⟨a, rfl⟩, r1, env, st1, he.mono x1 hm, m1, h1.split.imp fun v2 H2 ⟨y, r2, st2, x2, m2, rv2, h2⟩ => ?_⟩
      unfold oJoin at h2
      dsimp only at h2
      cases k : seqOf st2 y with
      | none => rw [k] at h2; exact h2.elim
      | some xs =>
        rw [k] at h2
        cases k2 : strsOf xs with
        | none => simp only [Option.bind_some, k2] at h2; exact h2.elim
        | some ys =>
          simp only [Option.bind_some, k2] at h2
          by_cases q : (ys.map (·.length)).sum + ys.length * a.length ≤ big
          · rw [if_pos q] at h2
            obtain ⟨p, ws, rfl, hq, rs⟩ := seq_at m2 k rv2
            have e := strs_at k2 rs
            subst e
            exact ⟨a, p, ys, rfl, rfl, hq, q, h2 r2 H2 _ Xt.refl m2 (.str _)⟩
          · rw [if_neg q] at h2; exact h2.elim
    | _ => exact h1.elim⟩
end
end Sm

set_option Elab.async false
set_option linter.all false
set_option maxRecDepth 100000
set_option maxHeartbeats 4000000
namespace Sm
open L2 PySem PySem.Spec
/-! ### statements -/
/-- what is known once a statement has ended in x -/
def AftS (X : Cx) (W : WX) (r : List Addr) (H : Hp) (x : RS) (D : Ends) : Prop := match x with
  | .nx e st => ∀ r' H' σ, Xt r H r' H' → Mt X.K H' r' st → REnv X.K H' r' e σ → D.nx σ H'
  | .bk e st => ∀ r' H' σ, Xt r H r' H' → Mt X.K H' r' st → REnv X.K H' r' e σ → D.bk σ H'
  | .ct e st => ∀ r' H' σ, Xt r H r' H' → Mt X.K H' r' st → REnv X.K H' r' e σ → D.ct σ H'
  | .rt x st => ∀ r' H' v, Xt r H r' H' → Mt X.K H' r' st → RV X.K H' r' x v → D.rt v H'
  | .ex a e st => ∀ r' H' σ cls d, Xt r H r' H' → Mt X.K H' r' st → REnv X.K H' r' e σ → ExR X.K X.mg H' r' a cls d → W cls d σ H'
  | .no => False
def tS (X : Cx) (W : WX) (m : MS) : TS := fun D σ H => ∃ r env st, REnv X.K H r env σ ∧ Mt X.K H r st ∧ AftS X W r H (m env st) D
abbrev PSm (X : Cx) (W : WX) (s : Stmt) (m : MS) : Prop := PS X s (tS X W m)
abbrev PSsm (X : Cx) (W : WX) (s : List Stmt) (m : MS) : Prop := PSs X s (tS X W m)
/-- an expression, then the rest of a statement -/
def sE {α : Type} (m : Env → M α) (k : α → MS) : MS := fun env st => match m env st with
  | .ok a st' => k a env st'
  | .ex e st' => .ex e env st'
  | .no => .no
def sNx : MS := fun env st => .nx env st
def sBk : MS := fun env st => .bk env st
def sCt : MS := fun env st => .ct env st
def sNo : MS := fun _ _ => .no
def sSeq (a b : MS) : MS := fun env st => match a env st with
  | .nx e st' => b e st'
  | r => r
def sRet (m : ME) : MS := sE m fun x _ st => .rt x st
def sRetN : MS := fun _ st => .rt .non st
def sExp (m : ME) : MS := sE m fun _ => sNx
def sIf (c : MT) (a b : MS) : MS := sE c fun t => if t then a else b
def sRaise (c : Str) : MS := fun env st => .ex ⟨c, []⟩ env st
/-! targets -/
abbrev MG := IV → Env → M Env
abbrev MGs := List IV → Env → M Env
def gNm (i : Nat) : MG := fun x env => ret (env.set i (some x))
def gsN : MGs := fun xs env => match xs with
  | [] => ret env
  | _ => stuck
def gsC (g : MG) (gs : MGs) : MGs := fun xs env => match xs with
  | x :: xs => bnd (g x env) (gs xs)
  | [] => stuck
def gTp (n : Nat) (gs : MGs) : MG := fun x env => match x with
  | .tup xs => if xs.length = n then gs xs env else stuck
  | _ => stuck
def setI (o i v : IV) (st : Hs) : Option Hs := match o, i with
  | .ref a, .int k => (ioL st[a]?).bind fun xs => (ixN xs.length k).map fun j => st.set a (.lst (xs.set j v))
  | _, _ => none
def gSb (o i : ME) : MG := fun v env => bnd (o env) fun x => bnd (i env) fun y => fun st => match setI x y v st with
  | some st' => .ok env st'
  | none => .no
def asNx (x : Rs Env) : RS := match x with
  | .ok e st => .nx e st
  | _ => .no
def sAsg (m : ME) (g : MG) : MS := sE m fun x env st => asNx (g x env st)
def sPar2 (i j : Nat) (ms : MA) : MS := sE ms fun xs env st => match xs with
  | [x, y] => .nx ((env.set i (some x)).set j (some y)) st
  | _ => .no
def sPar3 (i j l : Nat) (ms : MA) : MS := sE ms fun xs env st => match xs with
  | [x, y, z] => .nx (((env.set i (some x)).set j (some y)).set l (some z)) st
  | _ => .no
/-! what is walked over -/
inductive Src where
  | rng (lo : Int) (n : Nat)
  | seq (x : IV) (n : Nat)
  | txt (z : Str)
def Src.n : Src → Nat
  | .rng _ n => n
  | .seq _ n => n
  | .txt z => z.cps.size
def Src.item : Src → Nat → Hs → Option IV
  | .rng lo n, i, _ => if i < n then some (.int (lo + i)) else none
  | .seq x n, i, st => (seqOf st x).bind fun xs => if xs.length = n then xs[i]? else none
  | .txt z, i, _ => z.cps[i]?.map fun c => .str ⟨#[c]⟩
def Src.fin : Src → Hs → Bool
  | .seq x n, st => match seqOf st x with
    | some xs => xs.length == n
    | none => false
  | _, _ => true
abbrev MI := Env → M Src
def iRg1 (ms : MA) : MI := fun env => bnd (ms env) fun xs => match xs with
  | [.int j] => if -4611686018427387904 ≤ j ∧ j < 4611686018427387904 then ret (.rng 0 j.toNat) else stuck
  | _ => stuck
def iRg2 (ms : MA) : MI := fun env => bnd (ms env) fun xs => match xs with
  | [.int i, .int j] => if -4611686018427387904 ≤ i ∧ i < 4611686018427387904 ∧ -4611686018427387904 ≤ j ∧ j < 4611686018427387904 then ret (.rng i (j - i).toNat) else stuck
  | _ => stuck
/-- a list is walked over -/
def iLs (m : ME) : MI := fun env => bnd (m env) fun x st => match lstOf st x with
  | some xs => .ok (.seq x xs.length) st
  | none => .no
/-- a tuple is walked over -/
def iTp (m : ME) : MI := fun env => bnd (m env) fun x st => match x with
  | .tup xs => .ok (.seq x xs.length) st
  | _ => .no
def iTx (m : ME) : MI := fun env => bnd (m env) fun x st => match x with
  | .str z => .ok (.txt z) st
  | _ => .no
def goFor (s : Src) (g : MG) (b : MS) : Nat → Nat → MS
  | 0, _, env, st => if s.fin st = true then .nx env st else .no
  | k + 1, i, env, st => match s.item i st with
    | none => .no
    | some x => match g x env st with
      | .ok env' st' => match b env' st' with
        | .nx e s' => goFor s g b k (i + 1) e s'
        | .ct e s' => goFor s g b k (i + 1) e s'
        | .bk e s' => .nx e s'
        | res => res
      | _ => .no
def sFor (i : MI) (g : MG) (b : MS) : MS := sE i fun s => goFor s g b s.n 0
def wipeI (env : Env) : List Nat → Env
  | [] => env
  | v :: vs => (wipeI env vs).set v none
/-- a comprehension's turns: the parts let no exception out -/
def goLc (s : Src) (g : MG) (c : MT) (m : ME) (env : Env) : Nat → Nat → List IV → M (List IV)
  | 0, _, acc, st => if s.fin st = true then .ok acc st else .no
  | k + 1, i, acc, st => match s.item i st with
    | none => .no
    | some x => match g x env st with
      | .ok env' st' => match c env' st' with
        | .ok true s2 => match m env' s2 with
          | .ok y s3 => if acc.length < big then goLc s g c m env k (i + 1) (acc ++ [y]) s3 else .no
          | _ => .no
        | .ok false s2 => goLc s g c m env k (i + 1) acc s2
        | _ => .no
      | _ => .no
def mLc (i : MI) (g : MG) (c : MT) (m : ME) (vs : List Nat) : ME := fun env => bnd (i env) fun s => bnd (goLc s g c m (wipeI env vs) s.n 0 []) fun xs st => .ok (.ref st.length) (st ++ [.lst xs])
def mtYes : MT := fun _ => ret true

section
variable {X : Cx} {W : WX} {pos : Pos} {r r' : List Addr} {H H' : Hp} {σ : L2.St} {env : Env} {st : Hs}
theorem AftS.later {x : RS} {D : Ends} (h : AftS X W r H x D) (e : Xt r H r' H') : AftS X W r' H' x D := by
  cases x with
  | no => exact h
  | nx env st => exact fun r2 H2 σ x2 => h r2 H2 σ (e.trans x2)
  | bk env st => exact fun r2 H2 σ x2 => h r2 H2 σ (e.trans x2)
  | ct env st => exact fun r2 H2 σ x2 => h r2 H2 σ (e.trans x2)
  | rt v st => exact fun r2 H2 v x2 => h r2 H2 v (e.trans x2)
  | ex a env st => exact fun r2 H2 σ c d x2 => h r2 H2 σ c d (e.trans x2)
theorem AftS.exp {α β : Type} {rel : Hp → List Addr → α → β → Prop} {m : Env → M α} {k : α → MS} {D : Ends} (he : REnv X.K H r env σ) (hm : Mt X.K H r st) (h : AftS X W r H (sE m k env st) D) :
    Aft X W σ rel r H (m env st) fun b H' => ∃ a r' st', Xt r H r' H' ∧ Mt X.K H' r' st' ∧ rel H' r' a b ∧ AftS X W r' H' (k a env st') D := by
  unfold sE at h
  cases q : m env st with
  | no => rw [q] at h; exact h
  | ex e st' => rw [q] at h; exact fun r' H' cls d x1 m1 hx => h r' H' σ cls d x1 m1 (he.mono x1 hm) hx
  | ok a st' => rw [q] at h; exact fun r' H' b x1 m1 q1 => ⟨a, r', st', x1, m1, q1, AftS.later h x1⟩
/-- the ends of a statement -/
theorem AftS.to {x : RS} {D D' : Ends} (h : AftS X W r H x D) (h1 : ∀ σ H, D.nx σ H → D'.nx σ H) (h2 : ∀ v H, D.rt v H → D'.rt v H) (h3 : ∀ σ H, D.bk σ H → D'.bk σ H) (h4 : ∀ σ H, D.ct σ H → D'.ct σ H) : AftS X W r H x D' := by
  cases x with
  | no => exact h
  | nx env st => exact fun r2 H2 σ a b c => h1 _ _ (h r2 H2 σ a b c)
  | bk env st => exact fun r2 H2 σ a b c => h3 _ _ (h r2 H2 σ a b c)
  | ct env st => exact fun r2 H2 σ a b c => h4 _ _ (h r2 H2 σ a b c)
  | rt v st => exact fun r2 H2 σ a b c => h2 _ _ (h r2 H2 σ a b c)
  | ex a env st => exact h
variable {s : Stmt} {ss : List Stmt} {e c : Expr} {m : ME} {a b : MS} {tc : MT} {ms : MA}
theorem psm_nil : PSsm X W [] sNx := PSs.weak pss_nil fun D σ H ⟨r, env, st, he, hm, h⟩ => h r H σ Xt.refl hm he
theorem psm_cons (h1 : PSm X W s a) (h2 : PSsm X W ss b) : PSsm X W (s :: ss) (sSeq a b) := PSs.weak (pss_cons h1 h2) fun D σ H ⟨r, env, st, he, hm, h⟩ => ⟨r, env, st, he, hm, by
  unfold sSeq at h
  cases q : a env st with
  | nx e st' =>
    rw [q] at h
    exact fun r' H' σ' x1 m1 e1 => ⟨r', e, st', e1, m1, AftS.later h x1⟩
  | no => rw [q] at h; exact h
  | bk e st' => rw [q] at h; exact h
  | ct e st' => rw [q] at h; exact h
  | rt v st' => rw [q] at h; exact h
  | ex a e st' => rw [q] at h; exact h⟩
theorem psm_one (h1 : PSm X W s a) : PSsm X W [s] a := pss_one h1
theorem psm_pass : PSm X W (.Pass pos) sNx := PS.weak ps_pass fun D σ H ⟨r, env, st, he, hm, h⟩ => h r H σ Xt.refl hm he
theorem psm_break : PSm X W (.Break pos) sBk := PS.weak ps_break fun D σ H ⟨r, env, st, he, hm, h⟩ => h r H σ Xt.refl hm he
theorem psm_cont : PSm X W (.Continue pos) sCt := PS.weak ps_continue fun D σ H ⟨r, env, st, he, hm, h⟩ => h r H σ Xt.refl hm he
theorem psm_doc {x : Str} {j : Nat} {pos' : Pos} : PSm X W (.Expr (.Constant (.str x) j pos) pos') sNx := PS.weak ps_doc fun D σ H ⟨r, env, st, he, hm, h⟩ => h r H σ Xt.refl hm he
theorem psm_exp (h : PEm X W e m) (hs : swapsWith e none pos.line X.env = pure false := by rfl) : PSm X W (.Expr e pos) (sExp m) := PS.weak (ps_expr h hs) fun D σ H ⟨r, env, st, he, hm, h⟩ =>
  ⟨r, env, st, he, hm, (AftS.exp (rel := rV X.K) he hm h).imp fun v H1 ⟨x, r1, st1, x1, m1, rv, h1⟩ => h1 r1 H1 σ Xt.refl m1 (he.mono x1 hm)⟩
theorem psm_ret (h : PEm X W e m) : PSm X W (.Return (some e) pos) (sRet m) := PS.weak (ps_ret h) fun D σ H ⟨r, env, st, he, hm, h⟩ =>
  ⟨r, env, st, he, hm, (AftS.exp (rel := rV X.K) he hm h).imp fun v H1 ⟨x, r1, st1, x1, m1, rv, h1⟩ => h1 r1 H1 v Xt.refl m1 rv⟩
theorem psm_retN : PSm X W (.Return none pos) sRetN := PS.weak ps_retN fun D σ H ⟨r, env, st, he, hm, h⟩ => h r H .non Xt.refl hm .non
theorem psm_if {ss' : List Stmt} (hc : PTm X W c tc) (ha : PSsm X W ss a) (hb : PSsm X W ss' b) : PSm X W (.If c ss ss' pos) (sIf tc a b) := PS.weak (ps_if hc ha hb) fun D σ H ⟨r, env, st, he, hm, h⟩ =>
  ⟨r, env, st, he, hm, (AftS.exp (rel := rB) he hm h).imp fun t H1 ⟨x, r1, st1, x1, m1, ek, h1⟩ => by
    subst ek
    cases x with
    | true => exact iteT ⟨r1, env, st1, he.mono x1 hm, m1, h1⟩
    | false => exact iteF ⟨r1, env, st1, he.mono x1 hm, m1, h1⟩⟩
theorem psm_raise {e : Expr} {C : Addr} {n : Str} (hc : X.calm = true) (tk : Takes X W) (hmk : PMk X e (fun _ H Q => Q (.ref C) none H)) (hg : X.mg n = some (.ref C)) : PSm X W (.Raise (some e) none pos) (sRaise n) :=
  PS.weak (ps_raise hc tk hmk) fun D σ H ⟨r, env, st, he, hm, h⟩ => h r H σ (.ref C) none Xt.refl hm he ⟨hg, rfl⟩
/-! targets -/
def rG (K : PySem.W.Frag) (σ : L2.St) (sl : List Nat) : Hp → List Addr → Env → L2.St → Prop := fun H r env σ' => REnv K H r env σ' ∧ ∀ vs, (∀ i ∈ sl, i ∈ vs) → L2.wipe σ' vs = L2.wipe σ vs
/-- what is known once a part without exceptions has given x -/
def Aft0 {α β : Type} (X : Cx) (rel : Hp → List Addr → α → β → Prop) (r : List Addr) (H : Hp) (x : Rs α) (Q : β → Hp → Prop) : Prop := match x with
  | .ok a st' => ∀ r' H' b, Xt r H r' H' → Mt X.K H' r' st' → rel H' r' a b → Q b H'
  | _ => False
theorem Aft0.later {α β : Type} {rel : Hp → List Addr → α → β → Prop} {x : Rs α} {Q : β → Hp → Prop} (h : Aft0 X rel r H x Q) (e : Xt r H r' H') : Aft0 X rel r' H' x Q := by
  cases x with
  | no => exact h
  | ok a st' => exact fun r2 H2 b x2 m2 q => h r2 H2 b (e.trans x2) m2 q
  | ex a st' => exact h
theorem Aft0.split {α β γ δ : Type} {rel : Hp → List Addr → α → β → Prop} {rel2 : Hp → List Addr → γ → δ → Prop} {m : M α} {k : α → M γ} {st : Hs} {Q : δ → Hp → Prop} (h : Aft0 X rel2 r H (bnd m k st) Q) :
    Aft0 X rel r H (m st) (fun b H' => ∃ a r' st', Xt r H r' H' ∧ Mt X.K H' r' st' ∧ rel H' r' a b ∧ Aft0 X rel2 r' H' (k a st') Q) := by
  unfold bnd at h
  cases q : m st with
  | no => rw [q] at h; exact h
  | ex e st' => rw [q] at h; exact h
  | ok a st' =>
    rw [q] at h
    exact fun r' H' b x1 m1 q1 => ⟨a, r', st', x1, m1, q1, Aft0.later (h : Aft0 X rel2 r H (k a st') Q) x1⟩
theorem Aft0.aft {α β : Type} {rel : Hp → List Addr → α → β → Prop} {x : Rs α} {Q : β → Hp → Prop} (h : Aft0 X rel r H x Q) : Aft X W σ rel r H x Q := by
  cases x with
  | no => exact h
  | ok a st' => exact h
  | ex a st' => exact h.elim
theorem Aft0.imp {α β : Type} {rel : Hp → List Addr → α → β → Prop} {x : Rs α} {Q Q' : β → Hp → Prop} (h : Aft0 X rel r H x Q) (i : ∀ b H, Q b H → Q' b H) : Aft0 X rel r H x Q' := by
  cases x with
  | no => exact h
  | ok a st' => exact fun r2 H2 b x2 m2 q => i _ _ (h r2 H2 b x2 m2 q)
  | ex a st' => exact h
def tGm (X : Cx) (sl : List Nat) (g : MG) : TG := fun v σ H Q => ∃ r env st x, REnv X.K H r env σ ∧ Mt X.K H r st ∧ RV X.K H r x v ∧ Aft0 X (rG X.K σ sl) r H (g x env st) Q
def tGsm (X : Cx) (sl : List Nat) (g : MGs) : TGs := fun vs σ H Q => ∃ r env st xs, REnv X.K H r env σ ∧ Mt X.K H r st ∧ RVs X.K H r xs vs ∧ Aft0 X (rG X.K σ sl) r H (g xs env st) Q
abbrev PGm (X : Cx) (sl : List Nat) (tg : Expr) (g : MG) : Prop := PG X tg (tGm X sl g)
abbrev PGsm (X : Cx) (sl : List Nat) (tgs : List Expr) (g : MGs) : Prop := PGs X tgs (tGsm X sl g)
theorem PG.weak {tg : Expr} {t t' : TG} (h : PG X tg t) (i : ∀ v σ H Q, t' v σ H Q → t v σ H Q) : PG X tg t' := ⟨fun pins s σ H v u Q I r q => h.run pins s σ H v u Q I r (i v σ H Q q)⟩
theorem PGs.weak {tg : List Expr} {t t' : TGs} (h : PGs X tg t) (i : ∀ v σ H Q, t' v σ H Q → t v σ H Q) : PGs X tg t' := ⟨fun pins s σ H v u Q I r q => h.run pins s σ H v u Q I r (i v σ H Q q)⟩
theorem wipe_set {σ : L2.St} {i : Nat} {v : Option V} {vs : List Nat} (h : i ∈ vs) : L2.wipe (σ.set i v) vs = L2.wipe σ vs := by
  have comm : ∀ (τ : L2.St) (us : List Nat), L2.wipe (τ.set i v) us = if i ∈ us then L2.wipe τ us else (L2.wipe τ us).set i v := by
    intro τ us
    induction us with
    | nil => rfl
    | cons u us ih =>
      show (L2.wipe (τ.set i v) us).set u none = _
      rw [ih]
      by_cases e : i = u
      · subst e
        by_cases q : i ∈ us
        · rw [if_pos q, if_pos (by simp)]; rfl
        · rw [if_neg q, if_pos (by simp)]
          show ((L2.wipe τ us).set i v).set i none = (L2.wipe τ us).set i none
          rw [List.set_set]
      · by_cases q : i ∈ us
        · rw [if_pos q, if_pos (by simp [q])]; rfl
        · rw [if_neg q, if_neg (by simp [e, q])]
          show ((L2.wipe τ us).set i v).set u none = ((L2.wipe τ us).set u none).set i v
          exact List.set_comm _ _ e
  rw [comm, if_pos h]
theorem pgm_name {i : Nat} {x : Str} (hN : X.N.Nodup) (hi : X.N[i]? = some x := by rfl) (hx : Loc X.env.scope x := by first | exact Or.inl rfl | exact Or.inr rfl) (hf : X.fn x = true ∨ X.env.scope.names.lookup x = some .local := by first | exact .inl rfl | exact .inr rfl | assumption) : PGm X [i] (.Name x pos) (gNm i) :=
  PG.weak (pg_name hN hi hx hf) fun v σ H Q ⟨r, env, st, x, he, hm, rv, h⟩ => h r H _ Xt.refl hm ⟨he.set rv, fun vs hv => wipe_set (hv i (by simp))⟩
theorem pgsm_nil : PGsm X [] [] gsN := PGs.weak pgs_nil fun vs σ H Q ⟨r, env, st, xs, he, hm, rs, h⟩ => by
  cases rs with
  | nil => exact ⟨rfl, h r H σ Xt.refl hm ⟨he, fun _ _ => rfl⟩⟩
  | cons _ _ => exact h.elim
theorem Aft0.get {α β : Type} {rel : Hp → List Addr → α → β → Prop} {x : Rs α} {Q : β → Hp → Prop} (h : Aft0 X rel r H x Q) : ∃ a st, x = .ok a st ∧ ∀ r' H' b, Xt r H r' H' → Mt X.K H' r' st → rel H' r' a b → Q b H' := by
  cases x with
  | no => exact h.elim
  | ex a st => exact h.elim
  | ok a st => exact ⟨a, st, rfl, h⟩
theorem Aft0.ok {α β : Type} {rel : Hp → List Addr → α → β → Prop} {a : α} {Q : β → Hp → Prop} (h : ∀ r' H' b, Xt r H r' H' → Mt X.K H' r' st → rel H' r' a b → Q b H') : Aft0 X rel r H (.ok a st) Q := h
theorem pgsm_cons {tg : Expr} {tgs : List Expr} {g : MG} {gs : MGs} {sl sl' : List Nat} (h1 : PGm X sl tg g) (h2 : PGsm X sl' tgs gs)
    (hs : (assignEach (tg :: tgs) X.env).map (·.2) = assign tg X.env :: (assignEach tgs X.env).map (·.2) := by rfl) : PGsm X (sl ++ sl') (tg :: tgs) (gsC g gs) := PGs.weak (pgs_cons h1 h2 hs) fun vs σ H Q ⟨r, env, st, xs, he, hm, rs, h⟩ => by
  cases rs with
  | nil => exact h.elim
  | @cons x v xs vs rx rs =>
    refine ⟨v, vs, rfl, r, env, st, x, he, hm, rx, (Aft0.split (rel := rG X.K σ sl) (show Aft0 X (rG X.K σ (sl ++ sl')) r H (bnd (g x env) (gs xs) st) Q from h)).imp fun σ1 H1 ⟨env1, r1, st1, x1, m1, ⟨e1, w1⟩, h1⟩ => ?_⟩
    refine ⟨r1, env1, st1, xs, e1, m1, rs.mono x1 hm, ?_⟩
    obtain ⟨a, st2, e2, h2⟩ := h1.get
    rw [e2]
    exact Aft0.ok fun r' H' b x2 m2 ⟨q1, q2⟩ => h2 r' H' b x2 m2 ⟨q1, fun vs hv => (q2 vs fun i hi => hv i (List.mem_append_right _ hi)).trans (w1 vs fun i hi => hv i (List.mem_append_left _ hi))⟩
theorem pgm_tup {tgs : List Expr} {k n : Nat} {gs : MGs} {sl : List Nat} (hc : X.calm = true) (h : PGsm X sl tgs gs)
    (hn : (assignEach tgs X.env).length = n := by rfl) (hst : (assignEach tgs X.env).findIdx? (·.1) = none := by rfl) : PGm X sl (.Tuple tgs k pos) (gTp n gs) := PG.weak (pg_tup hc h hn hst) fun v σ H Q ⟨r, env, st, x, he, hm, rv, h⟩ => by
  cases rv with
  | @tup p vs xs ht rs =>
    unfold gTp at h
    dsimp only at h
    by_cases q : xs.length = n
    · rw [if_pos q] at h
      exact ⟨p, vs, rfl, ht, by rw [← rs.length]; exact q, r, env, st, xs, he, hm, rs, h⟩
    · rw [if_neg q] at h; exact h.elim
  | _ => exact h.elim
theorem pgm_sub {o i : Expr} {mo mi : ME} (ho : PEm X (fun _ _ _ _ => False) o mo) (hi : PEm X (fun _ _ _ _ => False) i mi)
    (ha : ∀ v, assign (.Subscript o i pos) X.env v = (do
      let ov ← holding [v] (eval o X.env)
      let iv ← holding [v, ov] (eval i X.env)
      standAt pos
      holding [v, ov, iv] (setItem ov iv v)
      release [v, ov, iv] []) := by intro _; rfl) : PGm X [] (.Subscript o i pos) (gSb mo mi) := PG.weak (pg_sub ho hi set_list ha) fun v σ H Q ⟨r, env, st, x, he, hm, rv, h⟩ =>
  ⟨r, env, st, he, hm, (Aft0.split (rel := rV X.K) h).aft.imp fun ov H1 ⟨y, r1, st1, x1, m1, ry, h1⟩ => ⟨r1, env, st1, he.mono x1 hm, m1, (Aft0.split (rel := rV X.K) h1).aft.imp fun iv H2 ⟨z, r2, st2, x2, m2, rz, h2⟩ => by
    have ry2 := ry.mono x2 m1
    have rx2 := (rv.mono x1 hm).mono x2 m1
    have he2 := (he.mono x1 hm).mono x2 m1
    cases e : setI y z x st2 with
    | none => simp only [e] at h2; exact h2.elim
    | some st3 =>
      simp only [e] at h2
      cases y with
      | ref a =>
        cases z with
        | int k =>
          unfold setI at e
          dsimp only at e
          cases q : ioL st2[a]? with
          | none => rw [q] at e; cases e
          | some xs =>
            rw [q] at e
            cases q2 : ixN xs.length k with
            | none => simp only [Option.bind_some, q2] at e; cases e
            | some j =>
              simp only [Option.bind_some, q2] at e
              cases e
              cases ry2 with | ref hp =>
              cases rz
              obtain ⟨vs, e1, rs⟩ := m2.at_ _ _ _ (ioL_some q) hp
              rw [rs.length] at q2
              have W2 := Xt.write (o := .lst (vs.set j v)) m2 hp
              exact ⟨_, vs, k, j, rfl, rfl, e1, q2, h2 r2 _ σ W2 (m2.write hp ⟨_, upd_same, RVs.mono W2 m2 (rs.set rx2 j)⟩) ⟨he2.mono W2 m2, fun _ _ => rfl⟩⟩
        | _ => cases e
      | _ => cases e⟩⟩
theorem psm_asg {tg : Expr} {g : MG} {sl : List Nat} (he : PEm X W e m) (hg : PGm X sl tg g) (hs : swapsWithSole [tg] e pos.line X.env = pure false := by rfl) (hw : swappedStores [tg] e X.env = pure none := by rfl)
    (h1 : (assignEach [tg] X.env).map (·.2) = [assign tg X.env] := by rfl) : PSm X W (.Assign [tg] e pos) (sAsg m g) := PS.weak (ps_asg he hg hs hw h1) fun D σ H ⟨r, env, st, he, hm, h⟩ =>
  ⟨r, env, st, he, hm, (AftS.exp (rel := rV X.K) he hm h).imp fun v H1 ⟨x, r1, st1, x1, m1, rv, h1⟩ => ⟨r1, env, st1, x, he.mono x1 hm, m1, rv, by
    cases q : g x env st1 with
    | no => rw [q] at h1; exact h1.elim
    | ex a s2 => rw [q] at h1; exact h1.elim
    | ok env2 s2 => rw [q] at h1; exact fun r' H' σ' x2 m2 e2 => h1 r' H' σ' x2 m2 e2.1⟩⟩
theorem psm_par2 {i j : Nat} {x y : Str} {a b : Expr} {px py pt pos : Pos} {kt k2 pt2} (hc : X.calm = true) (hN : X.N.Nodup) (ha : PAm X W [a, b] ms) (hi : X.N[i]? = some x := by rfl) (hj : X.N[j]? = some y := by rfl) (hij : i ≠ j := by decide)
    (hx : X.env.scope.names.lookup x = some .local := by rfl) (hy : X.env.scope.names.lookup y = some .local := by rfl)
    (hw : swappedStores [.Tuple [.Name x px, .Name y py] kt pt] (.Tuple [a, b] k2 pt2) X.env = pure (some [x, y]) := by rfl)
    (hs : swapsWithSole [.Tuple [.Name x px, .Name y py] kt pt] (.Tuple [a, b] k2 pt2) pos.line X.env = pure false := by rfl) :
    PSm X W (.Assign [.Tuple [.Name x px, .Name y py] kt pt] (.Tuple [a, b] k2 pt2) pos) (sPar2 i j ms) := PS.weak (ps_par hc hN hi hj hij hx hy ha hw hs) fun D σ H ⟨r, env, st, he, hm, h⟩ =>
  ⟨r, env, st, he, hm, (AftS.exp (rel := rVs X.K) he hm h).imp fun vs H1 ⟨xs, r1, st1, x1, m1, rs, h1⟩ => by
    match xs, rs, h1 with
    | [x, y], .cons a (.cons b .nil), h1 => exact ⟨_, _, rfl, h1 r1 H1 _ Xt.refl m1 (((he.mono x1 hm).set a).set b)⟩
    | [], _, h1 => exact h1.elim
    | [_], _, h1 => exact h1.elim
    | _ :: _ :: _ :: _, _, h1 => exact h1.elim⟩
theorem psm_par3 {i j l : Nat} {x y z : Str} {a b c : Expr} {px py pz pt pos : Pos} {kt k2 pt2} (hc : X.calm = true) (hN : X.N.Nodup) (ha : PAm X W [a, b, c] ms) (hi : X.N[i]? = some x := by rfl) (hj : X.N[j]? = some y := by rfl) (hl : X.N[l]? = some z := by rfl) (hij : i ≠ j := by decide) (hil : i ≠ l := by decide) (hjl : j ≠ l := by decide)
    (hx : X.env.scope.names.lookup x = some .local := by rfl) (hy : X.env.scope.names.lookup y = some .local := by rfl) (hz : X.env.scope.names.lookup z = some .local := by rfl)
    (hw : swappedStores [.Tuple [.Name x px, .Name y py, .Name z pz] kt pt] (.Tuple [a, b, c] k2 pt2) X.env = pure (some [x, y, z]) := by rfl)
    (hs : swapsWithSole [.Tuple [.Name x px, .Name y py, .Name z pz] kt pt] (.Tuple [a, b, c] k2 pt2) pos.line X.env = pure false := by rfl) :
    PSm X W (.Assign [.Tuple [.Name x px, .Name y py, .Name z pz] kt pt] (.Tuple [a, b, c] k2 pt2) pos) (sPar3 i j l ms) := PS.weak (ps_par3 hc hN hi hj hl hij hil hjl hx hy hz ha hw hs) fun D σ H ⟨r, env, st, he, hm, h⟩ =>
  ⟨r, env, st, he, hm, (AftS.exp (rel := rVs X.K) he hm h).imp fun vs H1 ⟨xs, r1, st1, x1, m1, rs, h1⟩ => by
    match xs, rs, h1 with
    | [x, y, z], .cons a (.cons b (.cons c .nil)), h1 => exact ⟨_, _, _, rfl, h1 r1 H1 _ Xt.refl m1 ((((he.mono x1 hm).set a).set b).set c)⟩
    | [], _, h1 => exact h1.elim
    | [_], _, h1 => exact h1.elim
    | [_, _], _, h1 => exact h1.elim
    | _ :: _ :: _ :: _ :: _, _, h1 => exact h1.elim⟩
end
end Sm

set_option Elab.async false
set_option linter.all false
set_option maxRecDepth 100000
set_option maxHeartbeats 4000000
namespace Sm
open L2 PySem PySem.Spec
/-! ### loops and comprehensions -/
/-- a source and a walk of the library -/
def SrcR (X : Cx) (H : Hp) (r : List Addr) (s : Src) (J : It) : Prop := ∀ r' H' st', Xt r H r' H' → Mt X.K H' r' st' → (s.fin st' = true → J.stop s.n H') ∧ ∀ i x, s.item i st' = some x → J.go i H' ∧
  ∀ v H2, J.yld i H' v H2 → Xt r' H' r' H2 ∧ Mt X.K H2 r' st' ∧ RV X.K H2 r' x v
def tIm (X : Cx) (W : WX) (i : MI) : TI := fun σ H R => ∃ r env st, REnv X.K H r env σ ∧ Mt X.K H r st ∧ Aft X W σ (SrcR X) r H (i env st) R
abbrev PIm (X : Cx) (W : WX) (tg e : Expr) (i : MI) : Prop := PI X tg e (tIm X W i)
section
variable {X : Cx} {W : WX} {pos : Pos} {r r' : List Addr} {H H' : Hp} {σ : L2.St} {env : Env} {st : Hs} {tg e elt iter : Expr} {m me : ME} {ms : MA} {mi : MI} {g : MG} {sl : List Nat} {b : MS} {body : List Stmt} {tc : MT}
theorem PI.weak {tg e : Expr} {t t' : TI} (h : PI X tg e t) (i : ∀ σ H R, t' σ H R → t σ H R) : PI X tg e t' := ⟨fun pins s σ H R I q => h.run pins s σ H R I (i σ H R q)⟩
theorem Aft.any {α β : Type} {rel : Hp → List Addr → α → β → Prop} {a : α} {Q : β → Hp → Prop} (h : Aft X W σ rel r H (.ok a st) Q) (hm : Mt X.K H r st) {b : β} (q : rel H r a b) : Q b H := h r H b Xt.refl hm q
theorem src_rng {lo : Int} {n : Nat} : SrcR X H r (.rng lo n) (Itr lo n) := fun r' H' st' x1 m1 => ⟨fun _ => Nat.le_refl n, fun i x h => by
  unfold Src.item at h
  dsimp only at h
  by_cases q : i < n
  · rw [if_pos q] at h
    cases h
    refine ⟨q, fun v H2 y => ?_⟩
    obtain ⟨e1, e2⟩ := y
    subst e1 e2
    exact ⟨Xt.refl, m1, .int _⟩
  · rw [if_neg q] at h; cases h⟩
theorem src_txt {z : Str} : SrcR X H r (.txt z) (Its z) := fun r' H' st' x1 m1 => ⟨fun _ => Nat.le_refl _, fun i x h => by
  unfold Src.item at h
  dsimp only at h
  cases q : z.cps[i]? with
  | none => rw [q] at h; cases h
  | some c =>
    rw [q] at h
    cases h
    refine ⟨(Array.getElem?_eq_some_iff.mp q).1, fun v H2 y => ?_⟩
    obtain ⟨e1, c', e2, e3⟩ := y
    rw [q] at e2
    cases e2
    subst e1 e3
    exact ⟨Xt.refl, m1, .str _⟩⟩
theorem src_seq {x : IV} {v : V} {n : Nat} {p : Addr} {J : It} (hx : RV X.K H r x v) (ev : v = .ref p) (hm : Mt X.K H r st)
    (hJ : ∀ r' H' st' xs, Xt r H r' H' → Mt X.K H' r' st' → seqOf st' x = some xs → RV X.K H' r' x v → ∃ vs, RVs X.K H' r' xs vs ∧ (J.stop vs.length H') ∧ ∀ i w, vs[i]? = some w → J.go i H' ∧ ∀ u H2, J.yld i H' u H2 → H2 = H' ∧ u = w) : SrcR X H r (.seq x n) J := fun r' H' st' x1 m1 => by
  have hx' := hx.mono x1 hm
  refine ⟨fun h => ?_, fun i y h => ?_⟩
  · unfold Src.fin at h
    dsimp only at h
    cases q : seqOf st' x with
    | none => rw [q] at h; cases h
    | some xs =>
      rw [q] at h
      obtain ⟨vs, rs, h1, _⟩ := hJ r' H' st' xs x1 m1 q hx'
      have e : xs.length = n := eq_of_beq h
      rw [← rs.length, e] at h1
      exact h1
  · unfold Src.item at h
    dsimp only at h
    cases q : seqOf st' x with
    | none => rw [q] at h; cases h
    | some xs =>
      rw [q] at h
      obtain ⟨vs, rs, _, h2⟩ := hJ r' H' st' xs x1 m1 q hx'
      have h : (if xs.length = n then xs[i]? else none) = some y := h
      by_cases e : xs.length = n
      · rw [if_pos e] at h
        obtain ⟨w, e1, rw1⟩ := rs.get h
        obtain ⟨g1, g2⟩ := h2 i w e1
        refine ⟨g1, fun u H2 y => ?_⟩
        obtain ⟨e2, e3⟩ := g2 u H2 y
        subst e2 e3
        exact ⟨Xt.refl, m1, rw1⟩
      · rw [if_neg e] at h; cases h
theorem src_lst {x : IV} {v : V} {xs : List IV} {n : Nat} (hm : Mt X.K H r st) (hx : RV X.K H r x v) (h : lstOf st x = some xs) : ∃ p, v = .ref p ∧ (∃ ys, SqL X.K H p ys) ∧ SrcR X H r (.seq x n) (Itl X.K p) := by
  obtain ⟨p, vs, rfl, hq, rs⟩ := lst_at hm h hx
  refine ⟨p, rfl, ⟨vs, hq⟩, src_seq hx rfl hm fun r' H' st' xs' x1 m1 h' hx' => ?_⟩
  have h2 : lstOf st' x = some xs' := by
    cases x with
    | tup ys => cases h
    | _ => exact h'
  obtain ⟨p', vs', ep, hq', rs'⟩ := lst_at m1 h2 hx'
  cases ep
  refine ⟨vs', rs', ⟨vs', hq', Nat.le_refl _⟩, fun i w e => ⟨⟨vs', w, hq', e⟩, fun u H2 y => ?_⟩⟩
  obtain ⟨e1, e2⟩ := y
  have e3 := e2 vs' hq'
  rw [e] at e3
  exact ⟨e1, (Option.some.inj e3).symm⟩
theorem src_tup {xs : List IV} {v : V} {n : Nat} (hm : Mt X.K H r st) (hx : RV X.K H r (.tup xs) v) : ∃ p, v = .ref p ∧ (∃ ys, SqT X.K H p ys) ∧ SrcR X H r (.seq (.tup xs) n) (Itt X.K p) := by
  have hx0 := hx
  cases hx with
  | @tup p vs _ ht rs =>
    refine ⟨p, rfl, ⟨vs, ht⟩, src_seq hx0 rfl hm fun r' H' st' xs' x1 m1 h' hx' => ?_⟩
    cases h'
    cases hx' with
    | @tup _ vs' _ ht' rs' =>
      refine ⟨vs', rs', ⟨vs', ht', Nat.le_refl _⟩, fun i w e => ⟨⟨vs', w, ht', e⟩, fun u H2 y => ?_⟩⟩
      obtain ⟨e1, e2⟩ := y
      have e3 := e2 vs' ht'
      rw [e] at e3
      exact ⟨e1, (Option.some.inj e3).symm⟩
theorem pim_ls (h : PEm X W e m) : PIm X W tg e (iLs m) := PI.weak (pi_list h) fun σ H R ⟨r, env, st, he, hm, h⟩ => ⟨r, env, st, he, hm, (Aft.split (rel := rV X.K) h).imp fun v H1 ⟨x, r1, st1, x1, m1, rv, h1⟩ => by
  cases q : lstOf st1 x with
  | none => rw [q] at h1; exact h1.elim
  | some xs =>
    rw [q] at h1
    obtain ⟨p, rfl, hq, hs⟩ := src_lst (n := xs.length) m1 rv q
    exact ⟨p, rfl, hq, Aft.any h1 m1 hs⟩⟩
theorem pim_tp (h : PEm X W e m) : PIm X W tg e (iTp m) := PI.weak (pi_tup h) fun σ H R ⟨r, env, st, he, hm, h⟩ => ⟨r, env, st, he, hm, (Aft.split (rel := rV X.K) h).imp fun v H1 ⟨x, r1, st1, x1, m1, rv, h1⟩ => by
  cases x with
  | tup xs =>
    obtain ⟨p, rfl, hq, hs⟩ := src_tup (n := xs.length) m1 rv
    exact ⟨p, rfl, hq, Aft.any h1 m1 hs⟩
  | _ => exact h1.elim⟩
theorem pim_tx (h : PEm X W e m) : PIm X W tg e (iTx m) := PI.weak (pi_str h) fun σ H R ⟨r, env, st, he, hm, h⟩ => ⟨r, env, st, he, hm, (Aft.split (rel := rV X.K) h).imp fun v H1 ⟨x, r1, st1, x1, m1, rv, h1⟩ => by
  cases x with
  | str z =>
    cases rv
    exact ⟨z, rfl, Aft.any h1 m1 src_txt⟩
  | _ => exact h1.elim⟩
theorem pim_rg1 {a : Expr} {p : Pos} (ha : PAm X W [a] ms) (hg : Gl X "range") (hm : X.mg "range" = none) (hs : starEach [a] X.env = [(false, eval a X.env)] := by rfl) : PIm X W tg (.Call (.Name "range" p) [a] [] pos) (iRg1 ms) :=
  PI.weak (pi_range1 hg hm ha hs) fun σ H R ⟨r, env, st, he, hm, h⟩ => ⟨r, env, st, he, hm, (Aft.split (rel := rVs X.K) h).imp fun vs H1 ⟨xs, r1, st1, x1, m1, rs, h1⟩ => by
    revert rs h1
    split <;> intro rs h1
    · rename_i j
      obtain ⟨v, rfl, rv⟩ := rvs_one rs
      cases rv
      by_cases q : -4611686018427387904 ≤ j ∧ j < 4611686018427387904
      · rw [if_pos q] at h1
        exact ⟨j, rfl, by omega, by omega, Aft.any h1 m1 src_rng⟩
      · rw [if_neg q] at h1; exact h1.elim
    · exact h1.elim⟩
theorem pim_rg2 {a b : Expr} {p : Pos} (ha : PAm X W [a, b] ms) (hg : Gl X "range") (hm : X.mg "range" = none) (hs : starEach [a, b] X.env = [(false, eval a X.env), (false, eval b X.env)] := by rfl) (hs2 : starEach [b] X.env = [(false, eval b X.env)] := by rfl) : PIm X W tg (.Call (.Name "range" p) [a, b] [] pos) (iRg2 ms) :=
  PI.weak (pi_range2 hg hm ha hs hs2) fun σ H R ⟨r, env, st, he, hm, h⟩ => ⟨r, env, st, he, hm, (Aft.split (rel := rVs X.K) h).imp fun vs H1 ⟨xs, r1, st1, x1, m1, rs, h1⟩ => by
    revert rs h1
    split <;> intro rs h1
    · rename_i i j
      obtain ⟨v, w, rfl, rv, rw⟩ := rvs_two rs
      cases rv
      cases rw
      by_cases q : -4611686018427387904 ≤ i ∧ i < 4611686018427387904 ∧ -4611686018427387904 ≤ j ∧ j < 4611686018427387904
      · rw [if_pos q] at h1
        exact ⟨i, j, rfl, by omega, Aft.any h1 m1 src_rng⟩
      · rw [if_neg q] at h1; exact h1.elim
    · exact h1.elim⟩
theorem psm_for (hp : PassesOwn (model X.prog X.w) X.A X.env X.xe) (hc : X.calm = true) (hi : PIm X W tg iter mi) (hg : PGm X sl tg g) (hb : PSsm X W body b)
    (hs : ∀ x, foldedSetIterable iter X.env x = pure x := by intro _; rfl) : PSm X W (.For tg iter body [] pos) (sFor mi g b) := PS.weak (ps_for hp hc hi hg hb hs) fun D σ H ⟨r, env, st, he, hm, h⟩ =>
  ⟨r, env, st, he, hm, (AftS.exp (rel := SrcR X) he hm h).imp fun J H1 ⟨s, r1, st1, x1, m1, hJ, h1⟩ => by
    refine ⟨fun i k σ H => i + k = s.n ∧ ∃ r' env' st', Xt r1 H1 r' H ∧ Mt X.K H r' st' ∧ REnv X.K H r' env' σ ∧ AftS X W r' H (goFor s g b k i env' st') D, ⟨s.n, Nat.zero_add _, r1, env, st1, Xt.refl, m1, he.mono x1 hm, h1⟩, ?_⟩
    rintro i k σ H ⟨ek, r', env', st', x2, m2, e2, h2⟩
    obtain ⟨j1, j2⟩ := hJ r' H st' x2 m2
    cases k with
    | zero =>
      have ei : i = s.n := ek
      subst ei
      unfold goFor at h2
      by_cases q : s.fin st' = true
      · rw [if_pos q] at h2
        exact .inl ⟨j1 q, h2 r' H σ Xt.refl m2 e2⟩
      · rw [if_neg q] at h2; exact h2.elim
    | succ k =>
      unfold goFor at h2
      cases q : s.item i st' with
      | none => rw [q] at h2; exact h2.elim
      | some x =>
        rw [q] at h2
        dsimp only at h2
        obtain ⟨j3, j4⟩ := j2 i x q
        refine .inr ⟨j3, fun σ' H' => ∃ r3 env3 st3, Xt r1 H1 r3 H' ∧ Mt X.K H' r3 st3 ∧ REnv X.K H' r3 env3 σ' ∧ AftS X W r3 H' (goFor s g b k (i + 1) env3 st3) D, fun σ' H' hN => ⟨k, Nat.lt_succ_self k, by omega, hN⟩, fun v H' y => ?_⟩
        obtain ⟨x3, m3, rv⟩ := j4 v H' y
        refine ⟨r', env', st', x, e2.mono x3 m2, m3, rv, ?_⟩
        cases q2 : g x env' st' with
        | no => rw [q2] at h2; exact h2.elim
        | ex a s2 => rw [q2] at h2; exact h2.elim
        | ok env3 st3 =>
          rw [q2] at h2
          dsimp only at h2
          refine Aft0.ok fun r4 H4 σ4 x4 m4 e4 => ⟨r4, env3, st3, e4.1, m4, ?_⟩
          have h3 := AftS.later h2 (x3.trans x4)
          cases q3 : b env3 st3 with
          | no => rw [q3] at h3; exact h3
          | nx e5 s5 => rw [q3] at h3; exact fun r5 H5 σ5 x5 m5 re5 => ⟨r5, e5, s5, (x2.trans x3).trans (x4.trans x5), m5, re5, AftS.later h3 x5⟩
          | ct e5 s5 => rw [q3] at h3; exact fun r5 H5 σ5 x5 m5 re5 => ⟨r5, e5, s5, (x2.trans x3).trans (x4.trans x5), m5, re5, AftS.later h3 x5⟩
          | bk e5 s5 => rw [q3] at h3; exact h3
          | rt v5 s5 => rw [q3] at h3; exact h3
          | ex a5 e5 s5 => rw [q3] at h3; exact h3⟩
/-! ### comprehensions -/
abbrev W0 : WX := fun _ _ _ _ => False
theorem REnv.wipe {env : Env} {σ : L2.St} {K : PySem.W.Frag} {H : Hp} {r : List Addr} (h : REnv K H r env σ) : ∀ vs : List Nat, REnv K H r (wipeI env vs) (L2.wipe σ vs)
  | [] => h
  | v :: vs => by
    have ih := REnv.wipe h vs
    refine ⟨by unfold wipeI L2.wipe; rw [List.length_set, List.length_set]; exact ih.1, fun j x hj => ?_⟩
    unfold wipeI at hj
    by_cases q : v = j
    · subst q
      by_cases hl : v < (wipeI env vs).length
      · rw [List.getElem?_set_self hl] at hj; cases hj
      · rw [List.getElem?_eq_none (by simpa using hl)] at hj; cases hj
    · rw [List.getElem?_set_ne q] at hj
      unfold L2.wipe
      rw [List.getElem?_set_ne q]
      exact ih.2 j x hj
theorem Rs.ok_of {α β : Type} {rel : Hp → List Addr → α → β → Prop} {a : α} {Q : β → Hp → Prop} (h : ∀ r' H' b, Xt r H r' H' → Mt X.K H' r' st → rel H' r' a b → Q b H') : Aft X W σ rel r H (.ok a st) Q := h
/-- a list that stands apart comes into the small heap -/
theorem Mt.adopt {K : PySem.W.Frag} (m : Mt K H r st) {D : Addr} {vs : List V} {xs : List IV} (hD : H D = some (.lst vs)) (nD : D ∉ r) (rs : RVs K H r xs vs) : Mt K H (r ++ [D]) (st ++ [.lst xs]) := by
  have gt : ∀ {i : Nat} {p : Addr}, r[i]? = some p → (r ++ [D])[i]? = some p := fun {i p} e => by
    rw [List.getElem?_append_left (List.getElem?_eq_some_iff.mp e).1]; exact e
  refine ⟨by simp [m.len], List.nodup_append.mpr ⟨m.nd, by simp, fun a ha b hb => ?_⟩, fun i u q h1 h2 => ?_⟩
  · rw [List.mem_singleton] at hb
    subst hb
    exact fun z => nD (z ▸ ha)
  · have lift : ∀ {x : IV} {v : V}, RV K H r x v → RV K H (r ++ [D]) x v := by
      intro x v h
      exact RV.rec (motive_1 := fun x v _ => RV K H (r ++ [D]) x v) (motive_2 := fun xs vs _ => RVs K H (r ++ [D]) xs vs) .non .bl .int .str (fun h _ ih => .tup h ih) (fun h _ ih => .rl h ih) (fun h => .ref (gt h)) .nil (fun _ _ a b => .cons a b) h
    have lifts : ∀ {xs : List IV} {vs : List V}, RVs K H r xs vs → RVs K H (r ++ [D]) xs vs := by
      intro xs vs h
      induction xs generalizing vs with
      | nil => cases h; exact .nil
      | cons x xs ih => cases h with | cons a b => exact .cons (lift a) (ih b)
    by_cases hi : i < st.length
    · rw [List.getElem?_append_left hi] at h1
      rw [List.getElem?_append_left (by rw [m.len]; exact hi)] at h2
      have := m.at_ i u q h1 h2
      cases u with
      | lst ys =>
        obtain ⟨ws, e1, rs1⟩ := this
        exact ⟨ws, e1, lifts rs1⟩
      | dct kvs => exact this
    · have e : i = st.length := by
        have := (List.getElem?_eq_some_iff.mp h1).1
        simp at this
        omega
      subst e
      simp at h1
      rw [← m.len] at h2
      simp at h2
      subst h1 h2
      exact ⟨vs, hD, lifts rs⟩
theorem Mt.outD {K : PySem.W.Frag} (m : Mt K H r st) {D : Addr} (h : H D = none) : D ∉ r := fun z => by
  have w := m.mut z
  rw [h] at w
  exact w
/-- the accumulator's address is written: all else stands -/
theorem rv_acc {K : PySem.W.Frag} {H : Hp} {D : Addr} {vs ws : List V} (hD : H D = some (.lst vs)) {x : IV} {v : V} (h : RV K H r x v) : RV K (upd H D (.lst ws)) r x v :=
  RV.rec (motive_1 := fun x v _ => RV K (upd H D (.lst ws)) r x v) (motive_2 := fun xs vs _ => RVs K (upd H D (.lst ws)) r xs vs) .non .bl .int .str
    (fun h _ ih => .tup (by
      rcases h with (h | ⟨o, h⟩) | h
      · exact .inl (.inl (by rw [upd_ne (fun z => by rw [z, hD] at h; cases h)]; exact h))
      · exact .inl (.inr ⟨o, by rw [upd_ne (fun z => by rw [z, hD] at h; cases h)]; exact h⟩)
      · exact .inr h) ih)
    (fun h _ ih => .rl (by
      rcases h with ⟨o, h⟩ | h
      · exact .inl ⟨o, by rw [upd_ne (fun z => by rw [z, hD] at h; cases h)]; exact h⟩
      · exact .inr h) ih) (fun h => .ref h) .nil (fun _ _ a b => .cons a b) h
theorem rvs_acc {K : PySem.W.Frag} {H : Hp} {D : Addr} {vs ws : List V} (hD : H D = some (.lst vs)) : ∀ {xs : List IV} {us : List V}, RVs K H r xs us → RVs K (upd H D (.lst ws)) r xs us
  | _, _, .nil => .nil
  | _, _, .cons a b => .cons (rv_acc hD a) (rvs_acc hD b)
theorem Mt.acc {K : PySem.W.Frag} {H : Hp} (m : Mt K H r st) {D : Addr} {vs ws : List V} (hD : H D = some (.lst vs)) (nD : D ∉ r) : Mt K (upd H D (.lst ws)) r st :=
  ⟨m.len, m.nd, fun i u q h1 h2 => by
    have hq : q ≠ D := fun z => nD (z ▸ List.mem_of_getElem? h2)
    have := m.at_ i u q h1 h2
    cases u with
    | lst ys =>
      obtain ⟨us, e1, rs⟩ := this
      exact ⟨us, by rw [upd_ne hq]; exact e1, rvs_acc hD rs⟩
    | dct kvs => exact ⟨this.1, by rw [upd_ne hq]; exact this.2⟩⟩
theorem Xt.acc {H1 : Hp} {r1 : List Addr} (x : Xt r1 H1 r H) {D : Addr} {ws : List V} (n : H1 D = none) : Xt r1 H1 r (upd H D (.lst ws)) :=
  ⟨x.pre, fun p o h hn => by
    obtain ⟨a, b⟩ := x.fr p o h hn
    exact ⟨by rw [upd_ne (ne_of_none h n)]; exact a, b⟩⟩
theorem Xt.adopt {H1 : Hp} {r1 : List Addr} (x : Xt r1 H1 r H) {D : Addr} (n : H1 D = none) : Xt r1 H1 (r ++ [D]) H :=
  ⟨let ⟨t, e⟩ := x.pre; ⟨t ++ [D], by rw [e, List.append_assoc]⟩, fun p o h hn => by
    obtain ⟨a, b⟩ := x.fr p o h hn
    refine ⟨a, fun z => ?_⟩
    rw [List.mem_append, List.mem_singleton] at z
    exact z.elim b (ne_of_none h n)⟩
theorem wipe_wipe {σ : L2.St} {vs : List Nat} : ∀ {us : List Nat}, (∀ i ∈ us, i ∈ vs) → L2.wipe (L2.wipe σ us) vs = L2.wipe σ vs
  | [], _ => rfl
  | u :: us, h => by
    show L2.wipe ((L2.wipe σ us).set u none) vs = _
    rw [wipe_set (h u (by simp))]
    exact wipe_wipe fun i hi => h i (by simp [hi])
theorem lc_m {vs : List Nat} {Q : VK} (hv : ∀ i ∈ sl, i ∈ vs) (h : tE X W (mLc mi g tc me vs) σ H Q) : tLc (tIm X W mi) (tGm X sl g) (tT X W0 tc) (tE X W0 me) vs σ H Q := by
  obtain ⟨r, env, st, he, hm, h⟩ := h
  refine ⟨r, env, st, he, hm, (Aft.split (rel := SrcR X) h).imp fun J H1 ⟨s, r1, st1, x1, m1, hJ, h1⟩ D hD => ?_⟩
  have e1 := he.mono x1 hm
  refine ⟨fun i k H => i + k = s.n ∧ ∃ r' st' acc accV, Xt r1 H1 r' H ∧ Mt X.K H r' st' ∧ H D = some (.lst accV) ∧ D ∉ r' ∧ RVs X.K H r' acc accV ∧ Aft X W σ (rV X.K) r1 H1 (bnd (goLc s g tc me (wipeI env vs) k i acc) (fun xs st => .ok (.ref st.length) (st ++ [.lst xs])) st') Q,
    ⟨s.n, Nat.zero_add _, r1, st1, [], [], Xt.aside hD, m1.aside hD, upd_same, m1.outD hD, .nil, h1⟩, ?_⟩
  rintro i k H ⟨ek, r', st', acc, accV, x2, m2, d2, n2, rs2, h2⟩
  obtain ⟨j1, j2⟩ := hJ r' H st' x2 m2
  cases k with
  | zero =>
    have ei : i = s.n := ek
    subst ei
    unfold bnd goLc at h2
    by_cases q : s.fin st' = true
    · rw [if_pos q] at h2
      refine .inl ⟨j1 q, h2 (r' ++ [D]) H (.ref D) (x2.adopt hD) (m2.adopt d2 n2 rs2) ?_⟩
      exact .ref (by rw [← m2.len]; simp)
    · rw [if_neg q] at h2; exact h2.elim
  | succ k =>
    unfold bnd goLc at h2
    cases q : s.item i st' with
    | none => rw [q] at h2; exact h2.elim
    | some x =>
      rw [q] at h2
      dsimp only at h2
      obtain ⟨j3, j4⟩ := j2 i x q
      refine .inr ⟨j3, fun H' => ∃ r' st' acc accV, Xt r1 H1 r' H' ∧ Mt X.K H' r' st' ∧ H' D = some (.lst accV) ∧ D ∉ r' ∧ RVs X.K H' r' acc accV ∧ Aft X W σ (rV X.K) r1 H1 (bnd (goLc s g tc me (wipeI env vs) k (i + 1) acc) (fun xs st => .ok (.ref st.length) (st ++ [.lst xs])) st') Q,
        fun H' hN => ⟨k, Nat.lt_succ_self k, by omega, hN⟩, fun v H' y => ?_⟩
      obtain ⟨x3, m3, rv⟩ := j4 v H' y
      obtain ⟨d3, n3⟩ := x3.fr D _ d2 n2
      have rs3 := rs2.mono x3 m2
      refine ⟨r', wipeI env vs, st', x, ((e1.mono x2 m1).mono x3 m2).wipe vs, m3, rv, ?_⟩
      cases q2 : g x (wipeI env vs) st' with
      | no => rw [q2] at h2; exact h2.elim
      | ex a s2 => rw [q2] at h2; exact h2.elim
      | ok env3 st3 =>
        rw [q2] at h2
        dsimp only at h2
        refine Aft0.ok fun r4 H4 σ4 x4 m4 e4 => ⟨(e4.2 vs hv).trans (wipe_wipe (fun i h => h)), r4, env3, st3, e4.1, m4, ?_⟩
        obtain ⟨d4, n4⟩ := x4.fr D _ d3 n3
        have rs4 := rs3.mono x4 m3
        have x14 := (x2.trans x3).trans x4
        cases q3 : tc env3 st3 with
        | no => rw [q3] at h2; exact h2.elim
        | ex a s2 => rw [q3] at h2; exact h2.elim
        | ok t st4 =>
          rw [q3] at h2
          refine Rs.ok_of fun r5 H5 b x5 m5 eb => ?_
          have eb : t = b := eb
          subst eb
          obtain ⟨d5, n5⟩ := x5.fr D _ d4 n4
          have rs5 := rs4.mono x5 m4
          have x15 := x14.trans x5
          cases t with
          | false =>
            dsimp only at h2
            refine iteF ⟨r5, st4, acc, accV, x15, m5, d5, n5, rs5, h2⟩
          | true =>
            dsimp only at h2
            refine iteT ⟨r5, env3, st4, e4.1.mono x5 m4, m5, ?_⟩
            cases q4 : me env3 st4 with
            | no => rw [q4] at h2; exact h2.elim
            | ex a s2 => rw [q4] at h2; exact h2.elim
            | ok y st5 =>
              rw [q4] at h2
              dsimp only at h2
              by_cases q5 : acc.length < big
              · rw [if_pos q5] at h2
                refine Rs.ok_of fun r6 H6 w x6 m6 rw6 => ?_
                obtain ⟨d6, n6⟩ := x6.fr D _ d5 n5
                have rs6 := rs5.mono x6 m5
                exact ⟨accV, d6, by rw [← big_eq, ← rs6.length]; exact q5, r6, st5, acc ++ [y], accV ++ [w], (x15.trans x6).acc hD, m6.acc d6 n6, upd_same, n6, rvs_acc d6 (rs6.append (.cons rw6 .nil)), h2⟩
              · rw [if_neg q5] at h2; exact h2.elim
abbrev PTsm (X : Cx) (W : WX) (cs : List Expr) (m : MT) : Prop := PTs X cs (tT X W m)
theorem PTs.weak {cs : List Expr} {t t' : TT} (h : PTs X cs t) (i : ∀ σ H Q, t' σ H Q → t σ H Q) : PTs X cs t' := ⟨fun pins s σ H Q I q => h.run pins s σ H Q I (i σ H Q q)⟩
theorem ptsm_nil : PTsm X W [] mtYes := PTs.weak pts_nil fun σ H Q ⟨r, env, st, he, hm, h⟩ => h r H true Xt.refl hm rfl
theorem ptsm_one {c : Expr} (h : PTm X W c tc) : PTsm X W [c] tc := pts_one h
section
variable {ifs : List Expr} {scope : Scope} {own : List (Str × Nat)}
theorem pem_lc (hc : X.calm = true) (hN : X.N.Nodup) (ok : BlkOk X.N X.env.scope scope own) (hi : PIm X W tg iter mi)
    (hg : ∀ (s : Shared) (H : Hp) (C : Addr) (cl : List (Str × Addr)) (fp : List Addr), PGm (X.blk s H scope (compEnvC scope cl C X.env) fp) sl tg g) (ht : ∀ (s : Shared) (H : Hp) (C : Addr) (cl : List (Str × Addr)) (fp : List Addr), PTsm (X.blk s H scope (compEnvC scope cl C X.env) fp) W0 ifs tc)
    (he : ∀ (s : Shared) (H : Hp) (C : Addr) (cl : List (Str × Addr)) (fp : List Addr), PEm (X.blk s H scope (compEnvC scope cl C X.env) fp) W0 elt me) (hv : ∀ i ∈ sl, i ∈ own.map (·.2) := by decide) (hs : ∀ x, foldedSetIterable iter X.env x = pure x := by intro _; rfl) :
    PEm X W (.ListComp elt [⟨tg, iter, ifs, 0⟩] scope pos) (mLc mi g tc me (own.map (·.2))) :=
  PE.weak (pe_lc (tt := tT X W0 tc) (te := tE X W0 me) (g := tGm X sl g) hc hN hi ok hg ht he hs) fun σ H Q h => lc_m hv h
theorem psm_setLc {i : Nat} {y : Str} {py spos : Pos} (hc : X.calm = true) (hN : X.N.Nodup) (ok : BlkOk X.N X.env.scope scope own) (hi : PIm X W tg iter mi)
    (hg : ∀ (s : Shared) (H : Hp) (C : Addr) (cl : List (Str × Addr)) (fp : List Addr), PGm (X.blk s H scope (compEnvC scope cl C X.env) fp) sl tg g) (ht : ∀ (s : Shared) (H : Hp) (C : Addr) (cl : List (Str × Addr)) (fp : List Addr), PTsm (X.blk s H scope (compEnvC scope cl C X.env) fp) W0 ifs tc)
    (he : ∀ (s : Shared) (H : Hp) (C : Addr) (cl : List (Str × Addr)) (fp : List Addr), PEm (X.blk s H scope (compEnvC scope cl C X.env) fp) W0 elt me) (hv : ∀ i ∈ sl, i ∈ own.map (·.2) := by decide) (hs : ∀ x, foldedSetIterable iter X.env x = pure x := by intro _; rfl)
    (hy : X.N[i]? = some y := by rfl) (hyl : X.env.scope.names.lookup y = some .local := by rfl) (hsw : swapsWith (.ListComp elt [⟨tg, iter, ifs, 0⟩] scope pos) (some (.Name y py)) spos.line X.env = pure true := by exact sw_true rfl rfl rfl rfl) :
    PSm X W (.Assign [.Name y py] (.ListComp elt [⟨tg, iter, ifs, 0⟩] scope pos) spos) (sAsg (mLc mi g tc me (own.map (·.2))) (gNm i)) :=
  PS.weak (ps_setLc (tt := tT X W0 tc) (te := tE X W0 me) (g := tGm X sl g) hc hN hy hyl hsw hi ok hg ht he hs) fun D σ H ⟨r, env, st, he, hm, h⟩ => lc_m hv ⟨r, env, st, he, hm, (AftS.exp (rel := rV X.K) he hm h).imp fun v H1 ⟨x, r1, st1, x1, m1, rv, h1⟩ =>
    h1 r1 H1 _ Xt.refl m1 ((he.mono x1 hm).set rv)⟩
end
/-! ### methods of lists -/
def rMt (K : PySem.W.Frag) (f : IV → On) : V → List V → Hp → VK → Prop := fun x' vs H Q => ∃ r x xs st z st', f x xs st = some (z, st') ∧ Mt K H r st ∧ RV K H r x x' ∧ RVs K H r xs vs ∧ ∀ r' H' v, Xt r H r' H' → Mt K H' r' st' → RV K H' r' z v → Q v H'
theorem xm_append : MtR X "list.append" (rMt X.K tAppend) := by
  intro pins s σ H x' vs v us Q I rx rv ⟨r, x, xs, st, z, st', e, m, hx, rs, h⟩
  revert hx rs e
  unfold tAppend
  split <;> intro e hx rs
  · rename_i a y
    cases hx with | ref hp =>
    obtain ⟨w, rfl, rw1⟩ := rvs_one rs
    cases q : ioL st[a]? with
    | none => rw [q] at e; cases e
    | some ys =>
      rw [q] at e
      simp only [Option.bind_some] at e
      by_cases q2 : ys.length < big
      · rw [if_pos q2] at e
        cases e
        obtain ⟨ws, e1, rs1⟩ := m.at_ _ _ _ (ioL_some q) hp
        have W2 := Xt.write (o := .lst (ws ++ [w])) m hp
        exact mt_append pins s σ H _ _ v us Q I rx rv ⟨_, ws, w, rfl, rfl, e1, by rw [← big_eq, ← rs1.length]; exact q2, h r _ _ W2 (m.write hp ⟨_, upd_same, RVs.mono W2 m (rs1.append (.cons rw1 .nil))⟩) .non⟩
      · rw [if_neg q2] at e; cases e
  · cases e
theorem xm_pop : MtR X "list.pop" (rMt X.K tPop) := by
  intro pins s σ H x' vs v us Q I rx rv ⟨r, x, xs, st, z, st', e, m, hx, rs, h⟩
  revert hx rs e
  unfold tPop
  split <;> intro e hx rs
  · rename_i a i
    cases hx with | ref hp =>
    obtain ⟨w, rfl, rw1⟩ := rvs_one rs
    cases rw1
    cases q : ioL st[a]? with
    | none => rw [q] at e; cases e
    | some ys =>
      rw [q] at e
      simp only [Option.bind_some] at e
      by_cases q2 : -9223372036854775808 ≤ i ∧ i < 9223372036854775808
      · rw [if_pos q2] at e
        cases q3 : seqIndex? i ys.length with
        | none => rw [q3] at e; cases e
        | some k =>
          rw [q3] at e
          simp only [Option.bind_some] at e
          cases q4 : ys[k]? with
          | none => rw [q4] at e; cases e
          | some y =>
            rw [q4] at e
            cases e
            obtain ⟨ws, e1, rs1⟩ := m.at_ _ _ _ (ioL_some q) hp
            rw [rs1.length] at q3
            obtain ⟨w2, e2, rw2⟩ := rs1.get q4
            have W2 := Xt.write (o := .lst (ws.eraseIdx k)) m hp
            exact mt_popAt pins s σ H _ _ v us Q I rx rv ⟨_, ws, i, k, w2, rfl, rfl, e1, q2.1, q2.2, q3, e2, h r _ _ W2 (m.write hp ⟨_, upd_same, RVs.mono W2 m (rs1.erase k)⟩) (rw2.mono W2 m)⟩
      · rw [if_neg q2] at e; cases e
  · cases e
theorem pem_mth {o : Expr} {es : List Expr} {mo : ME} {name : Str} {apos : Pos} {id : String} {f : IV → On} (slot : Slot "list" name id) (hty : typeOf (.builtin id) = pure (.type "method_descriptor")) (hmt : MtR X id (rMt X.K f)) (ho : PEm X W o mo) (ha : PAm X W (e :: es) ms)
    (hbase : attributeBase o name X.env (eval o X.env) = eval o X.env := by rfl)
    (hfew : ((backTo pos (starEach (e :: es) X.env)).all (fun x => !x.1) && (backToKw pos (keywordEach [] X.env)).all (fun x => x.1.isSome)
      && decide ((e :: es).length + ([] : List Keyword).length + (if ([] : List Keyword).isEmpty then 0 else 1) < 30)) = true := by rfl)
    (hline : (apos.endLine == pos.line) = true := by rfl) (hs : starEach (e :: es) X.env = (false, eval e X.env) :: starEach es X.env := by rfl) (hplain : (backTo pos (starEach es X.env)).any (·.1) = false := by rfl) :
    PEm X W (.Call (.Attribute o name apos) (e :: es) [] pos) (mMth f mo ms) :=
  PE.weak (pe_bm F.plainAttrs_list slot hty hmt ho ha hbase hfew hline hs hplain) fun σ H Q ⟨r, env, st, he, hm, h⟩ => ⟨r, env, st, he, hm, (Aft.split (rel := rV X.K) h).imp fun v H1 ⟨x, r1, st1, x1, m1, rv, h1⟩ => by
    cases x with
    | ref a =>
      unfold bnd at h1
      cases q : ioL st1[a]? with
      | none => simp only [q] at h1; exact h1.elim
      | some xs =>
        simp only [q] at h1
        cases rv with
        | @ref _ p hp =>
        obtain ⟨vs, e1, rs⟩ := m1.at_ _ _ _ (ioL_some q) hp
        refine ⟨by
          first
            | exact .inl ⟨rfl, vs, .inl (.inl e1)⟩
            | exact ⟨rfl, vs, .inl (.inl e1)⟩, r1, env, st1, he.mono x1 hm, m1, (Aft.split (rel := rVs X.K) (show Aft X W σ (rV X.K) r1 H1 (bnd (ms env) (fun xs st => lf (f (.ref a) xs st)) st1) Q from h1)).imp fun us H2 ⟨ys, r2, st2, x2, m2, rs2, h2⟩ => ?_⟩
        cases q2 : f (.ref a) ys st2 with
        | none => rw [q2] at h2; exact h2.elim
        | some p2 =>
          rw [q2] at h2
          exact ⟨r2, .ref a, ys, st2, p2.1, p2.2, q2, m2, RV.mono x2 m1 (.ref hp), rs2, h2⟩
    | _ => exact h1.elim⟩
theorem pem_append {o : Expr} {mo : ME} {apos : Pos} (ho : PEm X W o mo) (ha : PAm X W [e] ms)
    (hbase : attributeBase o "append" X.env (eval o X.env) = eval o X.env := by rfl) (hs : starEach [e] X.env = (false, eval e X.env) :: starEach [] X.env := by rfl) (hline : (apos.endLine == pos.line) = true := by rfl)
    (hfew : ((backTo pos (starEach [e] X.env)).all (fun x => !x.1) && (backToKw pos (keywordEach [] X.env)).all (fun x => x.1.isSome)
      && decide ([e].length + ([] : List Keyword).length + (if ([] : List Keyword).isEmpty then 0 else 1) < 30)) = true := by rfl) : PEm X W (.Call (.Attribute o "append" apos) [e] [] pos) (mMth tAppend mo ms) :=
  pem_mth PySem.F.slot_list_append PySem.F.type_list_append xm_append ho ha hbase hfew hline hs rfl
theorem pem_pop {o : Expr} {mo : ME} {apos : Pos} (ho : PEm X W o mo) (ha : PAm X W [e] ms)
    (hbase : attributeBase o "pop" X.env (eval o X.env) = eval o X.env := by rfl) (hs : starEach [e] X.env = (false, eval e X.env) :: starEach [] X.env := by rfl) (hline : (apos.endLine == pos.line) = true := by rfl)
    (hfew : ((backTo pos (starEach [e] X.env)).all (fun x => !x.1) && (backToKw pos (keywordEach [] X.env)).all (fun x => x.1.isSome)
      && decide ([e].length + ([] : List Keyword).length + (if ([] : List Keyword).isEmpty then 0 else 1) < 30)) = true := by rfl) : PEm X W (.Call (.Attribute o "pop" apos) [e] [] pos) (mMth tPop mo ms) :=
  pem_mth PySem.F.slot_list_pop PySem.F.type_list_pop xm_pop ho ha hbase hfew hline hs rfl
end
end Sm

set_option Elab.async false
set_option linter.all false
set_option maxRecDepth 100000
set_option maxHeartbeats 4000000
namespace Sm
open L2 PySem PySem.Spec PyProof.Rows
/-! ### defs, calls, the law's end -/
/-- a def's promise, by its state-passing function -/
def spM (K : PySem.W.Frag) (mg : Str → Option Value) (f : List IV → M IV) (vs : List V) (H : Hp) (Q : VK) (E : XK) : Prop := ∃ r xs st, RVs K H r xs vs ∧ Mt K H r st ∧ match f xs st with
  | .ok x st' => ∀ r' H' v, Xt r H r' H' → Mt K H' r' st' → RV K H' r' x v → Q v H'
  | .ex e st' => ∀ r' H' cls d, Xt r H r' H' → Mt K H' r' st' → ExR K mg H' r' e cls d → E cls d H'
  | .no => False
def FnG (P : Program) (w : World) (K : PySem.W.Frag) (mg : Str → Option Value) (base : Heap) (k : Nat) (f : Addr) (fd : FuncData) (ps : List Str) (mf : List IV → M IV) : Prop :=
  ∀ (A : Around) (fr : List PySem.Env) (s : Shared) (H : Hp) (al : Args) (us : List Value) (vs : List V) (Q : VK) (E : XK), Room k A → A.guards = some [] → Env0 P w K mg base A fr s H → BindsTo s fd al (ps.zip us) → Vals vs us → vs.length = ps.length → spM K mg mf vs H Q E →
    codeAny (model P w) A (.call (.ref f) al) (CR (L2.CX P w) fr P w H s Q E) s
/-- a def's function, by its body -/
def endR : RS → Rs IV
  | .nx _ st => .ok .non st
  | .rt v st => .ok v st
  | .ex e _ st => .ex e st
  | _ => .no
def mDef (n : Nat) (b : MS) : List IV → M IV := fun xs st => endR (b (xs.map some ++ List.replicate (n - xs.length) none) st)
theorem renv_start {K : PySem.W.Frag} {H : Hp} {r : List Addr} {N : List Str} {xs : List IV} {vs : List V} (h : RVs K H r xs vs) : REnv K H r (xs.map some ++ List.replicate (N.length - xs.length) none) (L2.start N vs) := by
  unfold L2.start
  refine ⟨by simp [h.length], fun i x e => ?_⟩
  by_cases hi : i < xs.length
  · rw [List.getElem?_append_left (by simpa using hi), List.getElem?_map] at e
    cases q : xs[i]? with
    | none => rw [q] at e; cases e
    | some y =>
      rw [q] at e
      cases e
      obtain ⟨v, h1, h2⟩ := h.get q
      refine ⟨v, ?_, h2⟩
      rw [List.getElem?_append_left (by rw [List.length_map, ← h.length]; exact hi), List.getElem?_map, h1]
      rfl
  · rw [List.getElem?_append_right (by simpa using hi), List.getElem?_replicate] at e
    split at e <;> cases e
/-- what a body's reading may lean on -/
structure Bd (k : Nat) (X : Cx) (W : WX) : Prop where
  room : Room k X.A
  gd : X.A.guards = some []
  tk : L2.Takes X W
  po : PassesOwn (model X.prog X.w) X.A X.env X.xe
abbrev bX (P : Program) (w : World) (K : PySem.W.Frag) (mg : Str → Option Value) (base : Heap) (N : List Str) (x : Str) (t : Stmt) (f : Addr) (cd : Value) (A : Around) (fr : List PySem.Env) (s : Shared) (H : Hp) (E : XK) : Cx := cxOf (L2.CX P w) P w K mg base N x (defScope t) f cd A fr s H E
section
variable {P : Program} {w : World} {K : PySem.W.Frag} {mg : Str → Option Value} {base : Heap} {k : Nat}
theorem fng_of {x : Str} {t : Stmt} {f : Addr} {fd : FuncData} {N ps : List Str} {b : MS} (F : Fun K x x t f fd) (S : FnScope N ps (defScope t))
    (hb : ∀ (cd : Value) (A : Around) (fr : List PySem.Env) (s : Shared) (H : Hp) (E : XK), Bd k (bX P w K mg base N x t f cd A fr s H E) (fun cls d _ H' => E cls d H') → PSsm (bX P w K mg base N x t f cd A fr s H E) (fun cls d _ H' => E cls d H') (defBody t) b) :
    FnG P w K mg base (k + 1) f fd ps (mDef N.length b) := by
  obtain ⟨oc, od, kV, doc, pm, an, cd, ct, osl, rfl, lk, hcd⟩ := F.ex
  intro A fr s H al us vs Q E room gd e0 bnd rv hl hsp
  have hK : K.In s.heap := e0.mod.kin.keeps fun c o e => (e0.bs c o e).1
  have hL : s.heap.NoLimit := e0.mod.nolimit.keeps fun c o e => (e0.bs c o e).1
  refine codeAny_call_function room.depth (hK _ _ lk) rfl S.co S.gen rfl (PySem.W.codeRec_of hK hcd) (bnd _ _ _ _ (wpAny_newFunctionEnv_cells S.kind (fun y hy => ?_) fun env he s1 x1 => ?_))
  · rcases S.par y.1 (List.of_mem_zip hy).1 with z | z
    · exact .inl z
    · exact .inr ⟨z, PySem.W.cellsFrom_some _ _ _ (.inl z)⟩
  subst he
  refine ⟨hL.keeps x1.toInCall.keep, codeAny_func ?_⟩
  obtain ⟨r, xs, st, rs, m, h⟩ := hsp
  have tk : L2.Takes (bX P w K mg base N x t f cd A fr s H E) (fun cls d _ H' => E cls d H') := L2.takes_of rfl rfl rfl (E := E) (E₁ := fun e' s'' => L2.CX P w fr H s E e' s'') rfl
  have bd : Bd k (bX P w K mg base N x t f cd A fr s H E) (fun cls d _ H' => E cls d H') := ⟨room.deeper _, gd, tk, L2.passes_of (K := fun e s'' => L2.CX P w fr H s E e s'') (E₁ := fun e' s'' => L2.CX P w fr H s E e' s'') rfl⟩
  have J : Inv (bX P w K mg base N x t f cd A fr s H E) [] (L2.start N vs) H s1 := inv_start S room.hd e0 hl rv x1
  have aft : AftS (bX P w K mg base N x t f cd A fr s H E) (fun cls d _ H' => E cls d H') r H (b (xs.map some ++ List.replicate (N.length - xs.length) none) st) { nx := fun _ H' => Q .non H', rt := Q } := by
    unfold mDef at h
    cases q : b (xs.map some ++ List.replicate (N.length - xs.length) none) st with
    | no => rw [q] at h; exact h
    | nx e2 s2 => rw [q] at h; exact fun r' H' σ' x2 m2 _ => h r' H' .non x2 m2 .non
    | rt v s2 => rw [q] at h; exact h
    | bk e2 s2 => rw [q] at h; exact h.elim
    | ct e2 s2 => rw [q] at h; exact h.elim
    | ex e e2 s2 => rw [q] at h; exact fun r' H' σ' cls d x2 m2 _ z => h r' H' cls d x2 m2 z
  refine wpAny_mono ((hb cd A fr s H E bd).run [] s1 (L2.start N vs) H _ J ⟨r, _, st, renv_start rs, m, aft⟩) (fun fl s' z => ?_) fun _ _ z => z
  cases fl with
  | next => obtain ⟨_, H', J', q⟩ := z; exact ⟨.non, H', J'.os, J'.bare, J'.base, J'.hok, rfl, q⟩
  | ret u => obtain ⟨v, _, H', J', q1, q⟩ := z; exact ⟨v, H', J'.os, J'.bare, J'.base, J'.hok, q1, q⟩
  | brk => obtain ⟨_, _, _, q⟩ := z; exact q.elim
  | cont => obtain ⟨_, _, _, q⟩ := z; exact q.elim
/-- a name of the module that is such a def -/
def Cal (P : Program) (w : World) (K : PySem.W.Frag) (mg : Str → Option Value) (base : Heap) (k : Nat) (x : Str) (n : Nat) (mf : List IV → M IV) : Prop :=
  ∃ f fd ps, FnG P w K mg base k f fd ps mf ∧ ps.length = n ∧ mg x = some (.ref f) ∧ PySem.W.keepIn K (.ref f) = true ∧ Binds K fd ps []
/-- a def of the text as it stands -/
def DefAt (K : PySem.W.Frag) (mg : Str → Option Value) (x : Str) (t : Stmt) (ps : List Str) : Prop := ∃ f fd, Fun K x x t f fd ∧ mg x = some (.ref f) ∧ Binds K fd ps []
theorem cal_of {x : Str} {t : Stmt} {N ps : List Str} {b : MS} (D : DefAt K mg x t ps) (S : FnScope N ps (defScope t))
    (hb : ∀ (f : Addr) (cd : Value) (A : Around) (fr : List PySem.Env) (s : Shared) (H : Hp) (E : XK), Bd k (bX P w K mg base N x t f cd A fr s H E) (fun cls d _ H' => E cls d H') → PSsm (bX P w K mg base N x t f cd A fr s H E) (fun cls d _ H' => E cls d H') (defBody t) b) :
    Cal P w K mg base (k + 1) x ps.length (mDef N.length b) := by
  obtain ⟨f, fd, F, hm, hB⟩ := D
  exact ⟨f, fd, ps, fng_of F S (hb f), rfl, hm, F.kp, hB⟩
theorem FnG.mono {j : Nat} {f : Addr} {fd : FuncData} {ps : List Str} {mf : List IV → M IV} (F : FnG P w K mg base j f fd ps mf) (h : j ≤ k) : FnG P w K mg base k f fd ps mf := fun A fr s H al us vs Q E hr => F A fr s H al us vs Q E (hr.mono h)
theorem Cal.mono {j : Nat} {x : Str} {n : Nat} {mf : List IV → M IV} (C : Cal P w K mg base j x n mf) (h : j ≤ k) : Cal P w K mg base k x n mf := by
  obtain ⟨f, fd, ps, F, q⟩ := C
  exact ⟨f, fd, ps, F.mono h, q⟩
end
/-! values without references -/
mutual
def clI : IV → Bool
  | .tup xs => clIs xs
  | .rl xs => clIs xs
  | .ref _ => false
  | _ => true
def clIs : List IV → Bool
  | [] => true
  | x :: xs => clI x && clIs xs
end
mutual
theorem RV.cl {K : PySem.W.Frag} {H : Hp} {r r' : List Addr} : ∀ {x : IV} {v : V}, RV K H r x v → clI x = true → RV K H r' x v
  | _, _, .non, _ => .non
  | _, _, .bl b, _ => .bl b
  | _, _, .int i, _ => .int i
  | _, _, .str z, _ => .str z
  | _, _, .tup h hs, e => .tup h (RVs.cl hs e)
  | _, _, .rl h hs, e => .rl h (RVs.cl hs e)
  | _, _, .ref _, e => by cases e
theorem RVs.cl {K : PySem.W.Frag} {H : Hp} {r r' : List Addr} : ∀ {xs : List IV} {vs : List V}, RVs K H r xs vs → clIs xs = true → RVs K H r' xs vs
  | _, _, .nil, _ => .nil
  | _, _, .cons h hs, e => by
    have e := Bool.and_eq_true_iff.mp (show (clI _ && clIs _) = true from e)
    exact .cons (RV.cl h e.1) (RVs.cl hs e.2)
end
/-- a run with arguments without references is one by itself -/
def runC (f : List IV → M IV) : List IV → M IV := fun xs st => if clIs xs = true then
    match f xs [] with
    | .ok v st' => if clI v = true then .ok v st else f xs st
    | .ex e st' => if clIs (e.fs.map (·.2)) = true then .ex e st else f xs st
    | .no => f xs st
  else f xs st
/-- a call, all arguments by place -/
def mCall (f : List IV → M IV) (es : MA) : ME := fun env => bnd (es env) (runC f)
def clEnv (env : Env) : Bool := env.all fun o => match o with
  | some x => clI x
  | none => true
/-- a statement behind which nothing of the small heap is left -/
def sGc (b : MS) : MS := fun env st => match b env st with
  | .nx e st' => if (clEnv e && st.isEmpty) = true then .nx e [] else .nx e st'
  | x => x
section
variable {X : Cx} {W : WX} {pos p : Pos} {x : Str} {n : Nat} {mf : List IV → M IV} {k : Nat} {e : Expr} {es : List Expr} {ms : MA}
theorem pass_tk (tk : L2.Takes X W) (σ : L2.St) : PassesAt (L2.CX X.prog X.w) X σ (WE W σ) := passAt tk σ
theorem pass_0 (σ : L2.St) : PassesAt (L2.CX X.prog X.w) X σ (WE W0 σ) := fun pins H s e s' I h => passL pins σ H s e s' I h
theorem run_g {f : Addr} {fd : FuncData} {ps : List Str} {pins : List (Addr × Obj)} {σ : L2.St} {H : Hp} {s : Shared} {Q : VK} {us : List Value} {vs : List V} (F : FnG X.prog X.w X.K X.mg X.base k f fd ps mf) (hr : Room k X.A) (hgd : X.A.guards = some []) (hb : Binds X.K fd ps []) (hx : PassesAt (L2.CX X.prog X.w) X σ (WE W σ))
    (I : Inv X pins σ H s) (rv : Vals vs us) (hl : vs.length = ps.length) (h : spM X.K X.mg mf vs H Q (WE W σ)) : wpAny (model X.prog X.w) X.A (call (.ref f) us) (EP X pins σ Q) X.xe s := by
  have bt := hb s us I.kIn (by rw [List.append_nil, ← rv.length]; exact hl)
  rw [List.append_nil] at bt
  refine wpAny_call (codeAny_mono (F X.A X.stack s H ⟨us, []⟩ us vs Q (WE W σ) hr hgd I.env0 bt rv hl h) fun res s' z => ?_)
  match res, z with
  | .error u, z => exact hx pins H s u s' I z
  | .ok (.ret u), z => exact I.after z
  | .ok .next, z => exact z.elim
  | .ok .brk, z => exact z.elim
  | .ok .cont, z => exact z.elim
theorem xt_cl {K : PySem.W.Frag} {H H' : Hp} {r r' : List Addr} (x : Xt [] H r' H') : Xt r H r H' := ⟨⟨[], by simp⟩, fun p o h n => ⟨(x.fr p o h (by simp)).1, n⟩⟩
theorem mt_cl {K : PySem.W.Frag} {H H' : Hp} {r r' : List Addr} {st : Hs} (m : Mt K H r st) (x : Xt [] H r' H') : Mt K H' r st := ⟨m.len, m.nd, fun i o p h1 h2 => by
  have q := m.at_ i o p h1 h2
  refine q.mono (xt_cl (K := K) x) m ?_
  cases o with
  | lst xs => obtain ⟨vs, e, _⟩ := q; rw [e]; exact (x.fr p _ e (by simp)).1
  | dct kvs => rw [q.2]; exact (x.fr p _ q.2 (by simp)).1⟩
theorem mt_nil {K : PySem.W.Frag} {H : Hp} : Mt K H [] [] := ⟨rfl, List.nodup_nil, fun i o q e => by simp at e⟩
theorem aft_sp {σ : L2.St} {H : Hp} {Q : VK} {r : List Addr} {xs : List IV} {vs : List V} {st : Hs} (rs : RVs X.K H r xs vs) (m : Mt X.K H r st) (h : Aft X W σ (rV X.K) r H (runC mf xs st) Q) : spM X.K X.mg mf vs H Q (WE W σ) := by
  have plain : Aft X W σ (rV X.K) r H (mf xs st) Q → spM X.K X.mg mf vs H Q (WE W σ) := fun h => by
    refine ⟨r, xs, st, rs, m, ?_⟩
    cases q : mf xs st with
    | no => rw [q] at h; exact h
    | ok y s2 => rw [q] at h; exact h
    | ex a s2 => rw [q] at h; exact h
  unfold runC at h
  split at h
  · rename_i c
    split at h
    · rename_i y s2 q
      split at h
      · rename_i c2
        refine ⟨[], xs, [], rs.cl c, mt_nil, ?_⟩
        rw [q]
        exact fun r' H' v x1 _ rv => h r H' v (xt_cl (K := X.K) x1) (mt_cl m x1) (rv.cl c2)
      · exact plain h
    · rename_i a s2 q
      split at h
      · rename_i c2
        refine ⟨[], xs, [], rs.cl c, mt_nil, ?_⟩
        rw [q]
        refine fun r' H' cls d x1 _ hx => h r H' cls d (xt_cl (K := X.K) x1) (mt_cl m x1) ⟨hx.1, ?_⟩
        have h2 := hx.2
        cases e : a.fs with
        | nil => rw [e] at h2; exact h2
        | cons y ys =>
          rw [e] at h2 c2
          obtain ⟨dd, ws, g1, g2, g3, g4⟩ := h2
          exact ⟨dd, ws, g1, g2, g3, g4.cl c2⟩
      · exact plain h
    · exact plain h
  · exact plain h
theorem pem_call (C : Cal X.prog X.w X.K X.mg X.base k x n mf) (hr : Room k X.A) (hgd : X.A.guards = some []) (hx : ∀ σ, PassesAt (L2.CX X.prog X.w) X σ (WE W σ)) (ha : PAm X W (e :: es) ms) (hg : Gl X x) (hn : (e :: es).length = n := by rfl) (hdb : (x == ("__debug__" : Str)) = false := by decide)
    (he : starEach (e :: es) X.env = (false, eval e X.env) :: starEach es X.env := by rfl) (hpl : (backTo pos (starEach es X.env)).any (·.1) = false := by rfl) (hlen : ∀ env st xs st', ms env st = .ok xs st' → xs.length = (e :: es).length) : PEm X W (.Call (.Name x p) (e :: es) [] pos) (mCall mf ms) := by
  obtain ⟨f, fd, ps, F, hps, hm, hk, hb⟩ := C
  refine ⟨fun pins s σ H Q I h => ?_⟩
  obtain ⟨r, env, st, re, m, h⟩ := h
  refine wpAny_Call_Name_kw (ld_glob I hg hm ?_ hdb)
  have h2 : Aft X W σ (rVs X.K) r H (ms env st) (fun vs H' => vs.length = ps.length ∧ spM X.K X.mg mf vs H' Q (WE W σ)) := by
    have h3 := Aft.split (rel := rVs X.K) h
    cases q : ms env st with
    | no => rw [q] at h3; exact h3
    | ex a s2 => rw [q] at h3; exact h3
    | ok xs s2 =>
      rw [q] at h3
      refine fun r' H' vs x1 m1 rs => ⟨by rw [← rs.length, hlen _ _ _ _ q, hn, hps], ?_⟩
      have h4 : Aft X W σ (rV X.K) r H (runC mf xs s2) Q := by
        have h5 : Aft X W σ (rV X.K) r H (bnd (ms env) (runC mf) st) Q := h
        unfold bnd at h5
        rw [q] at h5
        exact h5
      exact aft_sp rs m1 (Aft.later h4 x1)
  exact PySem.W.callWith_K (h₀ := X.base) I.ok.mod.kin hk (thn (ha.run pos pins s σ H _ I ⟨r, env, st, re, m, h2⟩) fun us s1 ⟨vs, H1, I1, rv, hl, q⟩ => ⟨I1.kIn, run_g F hr hgd hb (hx σ) I1 rv hl q⟩) he hpl
theorem renv_cl {K : PySem.W.Frag} {H : Hp} {r r' : List Addr} {env : Env} {σ : L2.St} (h : REnv K H r env σ) (c : clEnv env = true) : REnv K H r' env σ := ⟨h.1, fun i x e => by
  obtain ⟨v, h1, h2⟩ := h.2 i x e
  exact ⟨v, h1, h2.cl (List.all_eq_true.mp c _ (List.mem_of_getElem? e))⟩⟩
theorem psm_gc {s : Stmt} {b : MS} (h : PSm X W s b) : PSm X W s (sGc b) := PS.weak h fun D σ H ⟨r, env, st, re, m, h⟩ => ⟨r, env, st, re, m, by
  unfold sGc at h
  cases q : b env st with
  | no => rw [q] at h; exact h
  | rt v s2 => rw [q] at h; exact h
  | bk e s2 => rw [q] at h; exact h
  | ct e s2 => rw [q] at h; exact h
  | ex a e s2 => rw [q] at h; exact h
  | nx e s2 =>
    rw [q] at h
    dsimp only at h
    split at h
    · rename_i c
      obtain ⟨c1, c2⟩ := Bool.and_eq_true_iff.mp c
      have est : st = [] := List.isEmpty_iff.mp c2
      subst est
      have er : r = [] := List.length_eq_zero_iff.mp m.len
      subst er
      exact fun r' H' σ' x1 m1 re1 => h [] H' σ' (xt_cl (K := X.K) x1) mt_nil (renv_cl re1 c1)
    · exact h⟩
/-! the number of arguments -/
def LenA (n : Nat) (ms : MA) : Prop := ∀ env st xs st', ms env st = .ok xs st' → xs.length = n
theorem len_nil : LenA 0 maN := fun env st xs st' h => by cases h; rfl
theorem len_cons {m : ME} {n : Nat} (h : LenA n ms) : LenA (n + 1) (maC m ms) := fun env st xs st' e => by
  unfold maC bnd at e
  cases q : m env st with
  | no => rw [q] at e; cases e
  | ex a s => rw [q] at e; cases e
  | ok y s =>
    rw [q] at e
    dsimp only at e
    cases q2 : ms env s with
    | no => rw [q2] at e; cases e
    | ex a s => rw [q2] at e; cases e
    | ok ys s2 =>
      rw [q2] at e
      cases e
      rw [List.length_cons, h _ _ _ _ q2]
end
/-! ### the law's end -/
theorem law_g {P : Program} {w : World} {K : PySem.W.Frag} {mg mb : Str → Option Value} {k : Nat} {fa a : Addr} {fd : FuncData} {x : Str} {mf : List IV → M IV} {s₁ : Shared} {vs : List Value} {ns : List Int}
    (KX : K.In s₁.heap) (nsG : s₁.heap.Ns mainGlobals mg) (nsB : s₁.heap.Ns builtinsNs mb) (mbB : ∀ x : Str, x ≠ "__name__" → mb x = bootBuiltins x) (lim : s₁.heap.NoLimit) (gen : s₁.gens = #[])
    (la : s₁.heap.get? a = some { cls := .type "list", data := .seq vs.toArray }) (ia : IntsAre vs ns) (sz : ns.length ≤ sizeLine) (room : Room k callerA)
    (F : ∀ base : Heap, K.In base → base.Ns mainGlobals mg → FnG P w K mg base k fa fd [x] mf) (bind : ∀ (s : Shared) (u : Value), BindsTo s fd ⟨[u], []⟩ [(x, u)])
    (good : ∃ st, mf [.rl (ns.map .int)] [] = .ok (.bl true) st) :
    codeAny (model P w) callerA (.call (.ref fa) ⟨[.ref a], []⟩) (fun r s' => r = .ok (.ret (.bool true)) ∧ OldK s₁.heap s'.heap ∧ s'.os = s₁.os ∧ AllBare s'.gens) s₁ := by
  have rv := vals_ints ia
  have rvs : ∀ (H : Hp) (ns : List Int), RVs K H [] (ns.map IV.int) (ns.map V.int) := fun H ns => by
    induction ns with
    | nil => exact .nil
    | cons n ns ih => exact .cons (.int n) ih
  obtain ⟨stE, good⟩ := good
  have main : ∀ H : Hp, Only H → RolA K H a (ns.map V.int) → HOk P w H s₁.heap → (∀ c, H c ≠ none → c = a) → (H a ≠ none → K.lookup a = none) →
      codeAny (model P w) callerA (.call (.ref fa) ⟨[.ref a], []⟩) (fun r s' => r = .ok (.ret (.bool true)) ∧ OldK s₁.heap s'.heap ∧ s'.os = s₁.os ∧ AllBare s'.gens) s₁ := by
    intro H hO hS hok hA hK
    have out : ∀ {c : Addr} {o : Obj} {es : Array DictEntry} {ep : Nat}, s₁.heap.get? c = some o → o.data = .dict es ep → H c = none := fun {c o es ep} e d => by
      cases q : H c with
      | none => rfl
      | some u =>
        have ec : c = a := hA c (by rw [q]; simp)
        rw [ec, la] at e
        cases e
        cases d
    have ns' : ∀ {c : Addr} {m : Str → Option Value}, s₁.heap.Ns c m → (hidT s₁.heap H).Ns c m := fun {c m} ⟨o, es, ep, e, d, z⟩ => ⟨o, es, ep, hidT_get e (out e d), d, z⟩
    have K' : K.In (hidT s₁.heap H) := fun c o e => hidT_get (KX c o e) (by
      cases q : H c with
      | none => rfl
      | some u =>
        have ec : c = a := hA c (by rw [q]; simp)
        rw [ec] at e q
        rw [hK (by rw [q]; simp)] at e
        cases e)
    have M0 : Mod K mg (hidT s₁.heap H) := ⟨K', ns' nsG, ⟨mb, ns' nsB, mbB⟩, let ⟨mc, z1, z2⟩ := lim; ⟨mc, ns' z1, z2⟩⟩
    have E0' : Env0 P w K mg (hidT s₁.heap H) callerA [] s₁ H := ⟨rfl, M0, fun c o e => of_hidT e, Nat.le_of_eq (hidT_size _ _), trivial, fun c hc => absurd (show c ∈ ([] : List Addr) from hc) (by simp), hok, .of_eq gen⟩
    have sp0 : spM K mg mf [.ref a] H (fun v _ => v = .bl true) (fun _ _ _ => False) := by
      refine ⟨[], [.rl (ns.map .int)], [], .cons (.rl hS (rvs H ns)) .nil, ⟨rfl, List.nodup_nil, fun i o q e => by simp at e⟩, ?_⟩
      rw [good]
      exact fun r' H' v _ _ z => by cases z; rfl
    refine codeAny_mono (F _ K' (ns' nsG) callerA [] s₁ H ⟨[.ref a], []⟩ [.ref a] [.ref a] _ _ room rfl E0' (bind s₁ (.ref a)) (.cons rfl .nil) rfl sp0) fun res s' z => ?_
    match res, z with
    | .error e, z =>
      obtain ⟨_, _, _, _, _, _, _, _, _, _, _, _, z⟩ := z
      exact z.elim
    | .ok .next, z => exact z.elim
    | .ok .brk, z => exact z.elim
    | .ok .cont, z => exact z.elim
    | .ok (.ret u), ⟨v, H', os, bare, un, hok', z1, z2⟩ =>
      have z2 : v = .bl true := z2
      subst z2
      cases z1
      refine ⟨rfl, OldK.of_keep fun c o e => ?_, os, bare⟩
      cases q : H c with
      | none => exact un.keep c o e q (fun z => absurd (show c ∈ ([] : List Addr) from z) (by simp)) (by simp)
      | some u =>
        rcases hO c with z | ⟨ob, xs, z⟩
        · rw [q] at z; cases z
        · obtain ⟨e1, _⟩ := hok c _ z
          obtain ⟨e2, _⟩ := hok' c _ (un.frzs c ob _ z)
          rw [e] at e1
          cases e1
          exact e2
  cases hk : K.lookup a with
  | some o =>
    have e := KX a o hk
    rw [la] at e
    cases e
    exact main (fun _ => none) (fun _ => .inl rfl) (.inr ⟨_, vs.toArray, _, hk, rfl, rfl, rfl, by rw [List.size_toArray, ia.length]; exact sz, by simpa using rv⟩) (fun c u z => by cases (show (none : Option HO) = some u from z)) (fun c z => absurd rfl z) fun z => absurd rfl z
  | none =>
    refine main (fun c => if c = a then some (.frz { cls := .type "list", data := .seq vs.toArray } (.lst (ns.map V.int))) else none) (fun c => ?_) (.inl ⟨{ cls := .type "list", data := .seq vs.toArray }, if_pos rfl⟩) (fun c u z => ?_) (fun c z => ?_) fun _ => hk
    · by_cases q : c = a
      · exact .inr ⟨_, _, if_pos q⟩
      · exact .inl (if_neg q)
    · by_cases q : c = a
      · cases (if_pos q).symm.trans z
        subst q
        exact ⟨la, by rw [List.length_map]; exact sz, vs, _, rv, la⟩
      · cases (if_neg q).symm.trans z
    · by_cases q : c = a
      · exact q
      · exact absurd (if_neg q) z
/-- the law, over a head by facts -/
theorem walk_g {l : PySem.W.OpenLaw} {n k : Nat} {q : Program} {loose : List Str} {XP : (Str → Option Value) → Heap → Prop} {YP : World → Heap → Prop} {d : DefRec} {x : Str} {mf : List IV → M IV}
    (hn : l.most = some n) (hn2 : n ≤ sizeLine) (hdf : d.params.defaults = []) (room : Room k callerA)
    (F : ∀ (w : World) (mg : Str → Option Value) (fa : Addr) (h : Heap), YP w h → h.Ns mainGlobals mg → mg d.name = some (.ref fa) →
      ∃ (K : PySem.W.Frag) (fd : FuncData), K.In h ∧ (∀ (s : Shared) (u : Value), BindsTo s fd ⟨[u], []⟩ [(x, u)]) ∧ ∀ base : Heap, K.In base → base.Ns mainGlobals mg → FnG l.prog w K mg base k fa fd [x] mf)
    (good : ∀ ns : List Int, ns.length ≤ n → ∃ st, mf [.rl (ns.map .int)] [] = .ok (.bl true) st) : PySem.W.WalkO q loose XP YP l.row.toRowW d [] (fun f vs => PySem.call f vs) := by
  refine Att.attach_call hn hdf fun w s₀ s₁ mg mb fa o pm cd doc a vs ns G Y ho hd hcd hmg hobj hints hlen hg => ?_
  obtain ⟨K, fd, KX, hb, hF⟩ := F w mg fa _ Y G.T.g hmg
  exact law_g KX G.T.g G.T.b G.T.builtins G.T.nolimit hg hobj hints (Nat.le_trans hlen hn2) room hF hb (good ns hlen)
end Sm

set_option Elab.async false
set_option linter.all false
set_option maxRecDepth 100000
set_option maxHeartbeats 4000000
namespace Sm
open L2 PySem PySem.Spec
open PySem.SeqAt PySem.MeetsSeq
open AutoSeq1 (wpAny_loadPart')
/-! ### a dict is no text -/
theorem dict_declines (l : Addr) (es : Array DictEntry) (n : Nat) (dd : Option Addr) (sl : Array (Option Value)) (b : Str) (u : Tok) :
    Meets (Builtin.«dict.__eq__» ⟨[.ref l, .str b u], []⟩) (fun _ R s => s.heap.get? l = some { cls := .type "dict", dict := dd, data := .dict es n, slots := sl } ∧ R (.ok (.ret .notImplemented)) s) :=
  .of_wp fun prog w A R s h => by
    obtain ⟨hp, g, d, tk, os⟩ := s
    obtain ⟨hl, h⟩ := h
    have f1 := F.sub_str_dict
    wp_walk using wpAny_loadPart' hl, wpAny_load hl
    exact ⟨_, rfl, h⟩
theorem str_declines (b : Str) (u : Tok) (l : Addr) (c : Value) (es : Array DictEntry) (n : Nat) (dd : Option Addr) (sl : Array (Option Value)) :
    Meets (Builtin.«str.__eq__» ⟨[.str b u, .ref l], []⟩) (fun _ R s => s.heap.get? l = some { cls := c, dict := dd, data := .dict es n, slots := sl } ∧ R (.ok (.ret .notImplemented)) s) :=
  .of_wp fun prog w A R s h => by
    obtain ⟨hp, g, d, tk, os⟩ := s
    obtain ⟨hl, h⟩ := h
    wp_walk using wpAny_loadPart' hl, wpAny_load hl
    exact ⟨_, rfl, h⟩
theorem rc_dict_str {A : Around} {s : Shared} {l : Addr} {o : Obj} {es : Array DictEntry} {n : Nat} (b : Str) (u : Tok) (ho : s.heap.get? l = some o) (hx : o.ExactDict) (hd : o.data = .dict es n) (hu : A.units < cLine) : RcAt A s (.ref l) (.str b u) false := fun prog w E Q h => by
  obtain ⟨cls, dd, data, sl⟩ := o
  obtain ⟨h1, h2, h3⟩ := hx
  dsimp only at h1 h2 h3 hd
  subst h1 h2 h3 hd
  exact rc_eq_decline_or (k := false) ⟨_, ho, rfl⟩ (typeIs_str s b u) (by decide) F.sub_str_dict F.slot_dict_eq F.slot_str_eq_refl
    (fun _ q => call_meets F.slot_dict_eq ⟨_, ho, rfl⟩ F.entry_dict_eq (F.args_dict_eq_2 _ _) (dict_declines l es n none #[] b u) ⟨ho, q⟩)
    (fun _ q => call_meets F.slot_str_eq_refl (typeIs_str s b u) F.entry_str_eq (F.args_str_eq_2 _ _) (str_declines b u l (.type "dict") es n none #[]) ⟨ho, q⟩)
    (fun _ q => wpAny_of_eq (rfl : isSame (.ref l) (.str b u) = pure false) q) (.inr hu) h
/-- a comparison in a pattern -/
def eqP (st : Hs) (x c : IV) : Option Bool := match x, c with
  | .ref a, .str z => match st[a]? with
    | some (.dct _) => some false
    | _ => eqI st 40 (.ref a) (.str z)
  | x, c => eqI st 40 x c
theorem eqP_at {X : Cx} {pins : List (Addr × Obj)} {σ : L2.St} {H : Hp} {s : Shared} {r : List Addr} {st : Hs} (I : Inv X pins σ H s) (m : Mt X.K H r st) (hu : X.A.units + 64 < cLine) {x c : IV} {b : Bool} {v w : V} {u1 u2 : Value} (h : eqP st x c = some b) (rx : RV X.K H r x v) (rc : RV X.K H r c w) (q1 : RelV v u1) (q2 : RelV w u2) : RcAt X.A s u1 u2 b := by
  have def_ : eqI st 40 x c = some b → RcAt X.A s u1 u2 b := fun h => (eqI_at I m 40 X.A (by omega) x c b v w u1 u2 h rx rc q1 q2).rc
  cases x with
  | ref a =>
    cases c with
    | str z =>
      unfold eqP at h
      dsimp only at h
      split at h
      · rename_i kvs k
        cases h
        cases rc
        obtain ⟨t, rfl⟩ := q2
        cases rx with
        | @ref _ p hp =>
          cases q1
          obtain ⟨_, e⟩ := m.at_ _ _ _ k hp
          obtain ⟨_, _, vs, _, o, es, ep, h1, h2, h3⟩ := (show ObjOk X.prog X.w H s.heap p (.dK []) from I.hok p _ e)
          exact rc_dict_str z t h1 h2 h3.1 (by omega)
      · exact def_ h
    | _ => exact def_ h
  | _ => exact def_ h
end Sm

set_option Elab.async false
set_option linter.all false
set_option maxRecDepth 100000
set_option maxHeartbeats 4000000
namespace Sm
open L2 PySem PySem.Spec
/-! ### match, repr, raise, try -/
/-- what a pattern gives: none where this layer does not tell, else a miss or the slots' values -/
abbrev MP := IV → Hs → Option (Option (List (Nat × IV)))
abbrev MPs := List IV → Hs → Option (Option (List (Nat × IV)))
def pCap (i : Nat) : MP := fun x _ => some (some [(i, x)])
def pWild : MP := fun _ _ => some (some [])
def pVal (c : IV) : MP := fun x st => (eqP st x c).map fun b => if b then some [] else none
def psN : MPs := fun _ _ => some (some [])
def psC (p : MP) (ps : MPs) : MPs := fun xs st => match xs with
  | [] => none
  | x :: xs => match p x st with
    | none => none
    | some none => some none
    | some (some a) => match ps xs st with
      | none => none
      | some none => some none
      | some (some b) => some (some (a ++ b))
def pSeq (n : Nat) (ps : MPs) : MP := fun x st => match x with
  | .tup xs => if xs.length = n then ps xs st else some none
  | .int _ | .bl _ | .str _ | .non => some none
  | _ => none
def bindI : List (Nat × IV) → Env → Env
  | [], env => env
  | (i, x) :: r, env => bindI r (env.set i (some x))
def cN : IV → MS := fun _ => sNx
def cC (p : MP) (b : MS) (r : IV → MS) : IV → MS := fun x env st => match p x st with
  | none => .no
  | some none => r x env st
  | some (some bs) => b (bindI bs env) st
def sMatch (e : ME) (cs : IV → MS) : MS := sE e cs
section
variable {X : Cx} {W : WX} {pos : Pos}
/-- the slots' names and values -/
inductive BRs (X : Cx) (H : Hp) (r : List Addr) : List (Str × Value) → List (Nat × IV) → Prop where
  | nil : BRs X H r [] []
  | cons {n : Str} {u : Value} {i : Nat} {x : IV} {v : V} {bs : List (Str × Value)} {ms : List (Nat × IV)} : X.N[i]? = some n → Loc X.env.scope n → (X.fn n = true ∨ X.env.scope.names.lookup n = some .local) → RV X.K H r x v → RelV v u → BRs X H r bs ms → BRs X H r ((n, u) :: bs) ((i, x) :: ms)
theorem BRs.append {H : Hp} {r : List Addr} : ∀ {a b : List (Str × Value)} {c d : List (Nat × IV)}, BRs X H r a c → BRs X H r b d → BRs X H r (a ++ b) (c ++ d)
  | _, _, _, _, .nil, h => h
  | _, _, _, _, .cons a b c d e f, h => .cons a b c d e (BRs.append f h)
def BR (X : Cx) (H : Hp) (r : List Addr) : Option (List (Str × Value)) → Option (List (Nat × IV)) → Prop
  | none, none => True
  | some a, some b => BRs X H r a b
  | _, _ => False
def PPm (X : Cx) (p : Pattern) (mp : MP) : Prop := ∀ (pins : List (Addr × Obj)) (s : Shared) (σ : L2.St) (H : Hp) (v : V) (u : Value) (r : List Addr) (x : IV) (st : Hs) (o : Option (List (Nat × IV))) (Q : Option (List (Str × Value)) → Shared → Prop),
  Inv X pins σ H s → Mt X.K H r st → RV X.K H r x v → RelV v u → mp x st = some o → (∀ s' z, Inv X pins σ H s' → BR X H r z o → Q z s') → wpAny (model X.prog X.w) X.A (matchPattern p X.env u) Q X.xe s
def PPsm (X : Cx) (ps : List Pattern) (mps : MPs) : Prop := ∀ (pins : List (Addr × Obj)) (s : Shared) (σ : L2.St) (H : Hp) (vs : List V) (us : List Value) (r : List Addr) (xs : List IV) (st : Hs) (o : Option (List (Nat × IV))) (Q : Option (List (Str × Value)) → Shared → Prop),
  Inv X pins σ H s → Mt X.K H r st → RVs X.K H r xs vs → Vals vs us → mps xs st = some o → (∀ s' z, Inv X pins σ H s' → BR X H r z o → Q z s') → wpAny (model X.prog X.w) X.A (matchEach ps X.env us) Q X.xe s
theorem ppm_cap {i : Nat} {n : Str} (hi : X.N[i]? = some n := by rfl) (hx : Loc X.env.scope n := by first | exact Or.inl rfl | exact Or.inr rfl) (hf : X.fn n = true ∨ X.env.scope.names.lookup n = some .local := by first | exact .inl rfl | exact .inr rfl) : PPm X (.MatchAs none (some n) pos) (pCap i) := fun pins s σ H v u r x st o Q I m rv ru e q => by
  cases e
  exact wpAny_matchPattern_Capture (q s _ I (.cons hi hx hf rv ru .nil))
theorem ppm_wild : PPm X (.MatchAs none none pos) pWild := fun pins s σ H v u r x st o Q I m rv ru e q => by
  cases e
  exact wpAny_matchPattern_Capture (q s _ I .nil)
theorem ppm_val {e : Expr} {c : IV} {cv : V} (hu : X.A.units + 64 < cLine) (he : PE X e (tC cv)) (hc : ∀ H r, RV X.K H r c cv) : PPm X (.MatchValue e pos) (pVal c) := fun pins s σ H v u r x st o Q I m rv ru e1 q => by
  unfold pVal at e1
  cases k : eqP st x c with
  | none => rw [k] at e1; cases e1
  | some b =>
    rw [k] at e1
    cases e1
    refine wpAny_matchPattern_Value (thn (he.run pins s σ H (fun w H1 => w = cv ∧ H = H1) I ⟨rfl, rfl⟩) fun w s1 ⟨v1, H1, I1, r1, e2, e3⟩ => ?_)
    subst e2
    rw [← e3] at I1
    refine eqP_at I1 m hu k rv (hc H r) ru r1 _ _ _ _ ?_
    refine wpAny_truthy_bool ?_
    cases b
    · exact q s1 _ I1 True.intro
    · exact q s1 _ I1 .nil
theorem ppm_str {z : Str} {j : Nat} {p2 : Pos} (hu : X.A.units + 64 < cLine) : PPm X (.MatchValue (.Constant (.str z) j p2) pos) (pVal (.str z)) := ppm_val hu pe_str fun _ _ => .str z
theorem ppm_int {i : Int} {j : Nat} {p2 : Pos} (hu : X.A.units + 64 < cLine) : PPm X (.MatchValue (.Constant (.int i) j p2) pos) (pVal (.int i)) := ppm_val hu pe_int fun _ _ => .int i
theorem ppsm_nil : PPsm X [] psN := fun pins s σ H vs us r xs st o Q I m rv ru e q => by
  cases e
  exact wpAny_matchEach_nil (q s _ I .nil)
theorem ppsm_cons {p : Pattern} {ps : List Pattern} {mp : MP} {mps : MPs} (h1 : PPm X p mp) (h2 : PPsm X ps mps) (hp : p.isStar = false := by rfl) : PPsm X (p :: ps) (psC mp mps) := fun pins s σ H vs us r xs st o Q I m rs ru e q => by
  cases rs with
  | nil => cases e
  | @cons x v xs vs rx rs =>
    cases ru with
    | cons ru1 rus =>
      unfold psC at e
      dsimp only at e
      cases k : mp x st with
      | none => rw [k] at e; cases e
      | some oa =>
        rw [k] at e
        refine wpAny_matchEach_cons (h1 pins s σ H v _ r x st oa _ I m rx ru1 k fun s1 z I1 b1 => ?_) hp
        cases oa with
        | none =>
          cases e
          cases z with
          | none => exact q s1 _ I1 True.intro
          | some a => exact b1.elim
        | some a =>
          cases z with
          | none => exact b1.elim
          | some za =>
            dsimp only at e
            cases k2 : mps xs st with
            | none => rw [k2] at e; cases e
            | some ob =>
              rw [k2] at e
              refine h2 pins s1 σ H vs _ r xs st ob _ I1 m rs rus k2 fun s2 z2 I2 b2 => ?_
              cases ob with
              | none =>
                cases e
                cases z2 with
                | none => exact q s2 _ I2 True.intro
                | some _ => exact b2.elim
              | some b =>
                cases e
                cases z2 with
                | none => exact b2.elim
                | some zb => exact q s2 _ I2 (BRs.append b1 b2)
theorem ppm_seq {ps : List Pattern} {mps : MPs} {n : Nat} (hc : X.calm = true) (h : PPsm X ps mps) (hn : ps.length = n := by rfl) (hstar : ps.findIdx? (·.isStar) = none := by rfl)
    (hwild : (ps.all fun p => p.isWildcard || (p.isStar && p.names.isEmpty)) = false := by rfl) : PPm X (.MatchSequence ps pos) (pSeq n mps) := fun pins s σ H v u r x st o Q I m rv ru e q => by
  cases rv with
  | @tup p vs xs ht rs =>
    cases ru
    obtain ⟨its, va, pl, hz⟩ := I.tuple ht
    have hlen : its.toArray.size = xs.length := by rw [List.size_toArray, rs.length, va.length]
    have hfit : (its.toArray.size : Int) < 2 ^ 63 := by
      rw [List.size_toArray, ← va.length]
      have := line63
      omega
    unfold pSeq at e
    dsimp only at e
    by_cases k : xs.length = n
    · rw [if_pos k] at e
      refine PyProof.Rows.matchSeq_tuple_hit pl hfit (by rw [hlen, k, hn]) ?_ hstar hwild
      have I1 : Inv X pins σ H { s with toks := s.toks + 1 + 1 } := (I.tok _).tok _
      rw [show ps.length = its.toArray.size by rw [hlen, k, hn]]
      refine wpAny_unpackItems_tuple (s := { s with toks := s.toks + 1 + 1 }) (I.ok.hd hc) pl fun h' hx => ?_
      exact h pins _ σ H vs _ r xs st o Q (I1.kept (t' := s.toks + 1 + 1) fun b ob eo => hx b ob (Nat.ne_of_lt (Heap.lt_size eo)) eo) m rs (by simpa using va) e q
    · rw [if_neg k] at e
      cases e
      exact PyProof.Rows.matchSeq_tuple_miss pl hfit (by rw [hlen, hn]; exact k) (q _ _ ((I.tok _).tok _) True.intro) hstar hwild
  | int i =>
    cases e
    obtain ⟨t, rfl⟩ := ru
    exact wpAny_matchPattern_Sequence (wpAny_collectionFlag (typeIs_int s i t) flag_seq_int (q s _ I True.intro)) hstar hwild
  | bl b =>
    cases e
    cases ru
    exact wpAny_matchPattern_Sequence (wpAny_collectionFlag (typeIs_bool s b) flag_seq_bool (q s _ I True.intro)) hstar hwild
  | str z =>
    cases e
    obtain ⟨t, rfl⟩ := ru
    exact wpAny_matchPattern_Sequence (wpAny_collectionFlag (typeIs_str s z t) flag_seq_str (q s _ I True.intro)) hstar hwild
  | non =>
    cases e
    cases ru
    exact wpAny_matchPattern_Sequence (wpAny_collectionFlag (typeIs_none s) flag_seq_None (q s _ I True.intro)) hstar hwild
  | rl _ _ => cases e
  | ref _ => cases e
/-- cases, one behind another -/
def PCm (X : Cx) (W : WX) (cs : List MatchCase) (mc : IV → MS) : Prop := ∀ (first : Bool) (pins : List (Addr × Obj)) (s : Shared) (σ : L2.St) (H : Hp) (v : V) (u : Value) (r : List Addr) (x : IV) (env : Env) (st : Hs) (D : Ends),
  Inv X pins σ H s → Mt X.K H r st → REnv X.K H r env σ → RV X.K H r x v → RelV v u → AftS X W r H (mc x env st) D → wpAny (model X.prog X.w) X.A (matchCases cs X.env u first) (SP X pins D) X.xe s
theorem pcm_nil : PCm X W [] cN := fun first pins s σ H v u r x env st D I m re rv ru h => wpAny_matchCases_nil ⟨σ, H, I, h r H σ Xt.refl m re⟩
theorem bind_all (hN : X.N.Nodup) {Q : Unit → Shared → Prop} {pins : List (Addr × Obj)} {H : Hp} {r : List Addr} : ∀ {bs : List (Str × Value)} {ms : List (Nat × IV)} {s : Shared} {σ : L2.St} {env : Env}, BRs X H r bs ms → Inv X pins σ H s → REnv X.K H r env σ →
    (∀ s' σ', Inv X pins σ' H s' → REnv X.K H r (bindI ms env) σ' → Q () s') → wpAny (model X.prog X.w) X.A (assignInOrder (bs.map fun (n, _) => bindName X.env n) (bs.map (·.2))) Q X.xe s
  | _, _, s, σ, env, .nil, I, re, q => PyProof.Rows.assignInOrder_nil (q s σ I re)
  | _, _, s, σ, env, .cons (n := n) (u := u) hi hx hf rv ru t, I, re, q => by
    refine PyProof.Rows.assignInOrder_cons ?_
    show wpAny _ _ (do holding [u] point; storeName X.env n u; point) _ _ _
    refine wpAny_bind (wpAny_holding (wpAny_point (wpAny_bind (store_ok I hN hi hx ru (fun s1 I1 => wpAny_point ?_) hf))))
    exact bind_all hN t I1 (re.set rv) q
theorem pcm_cons {p : Pattern} {body : List Stmt} {rest : List MatchCase} {mp : MP} {b : MS} {mr : IV → MS} (hN : X.N.Nodup) (hp : PPm X p mp) (hb : PSsm X W body b) (hr : PCm X W rest mr) : PCm X W (⟨p, none, body⟩ :: rest) (cC mp b mr) := fun first pins s σ H v u r x env st D I m re rv ru h => by
  unfold cC at h
  cases k : mp x st with
  | none => rw [k] at h; exact h.elim
  | some o =>
    rw [k] at h
    refine wpAny_matchCases_cons (hp pins s σ H v u r x st o _ I m rv ru k fun s1 z I1 b1 => ?_)
    cases o with
    | none =>
      cases z with
      | none => exact hr false pins s1 σ H v u r x env st D I1 m re rv ru h
      | some _ => exact b1.elim
    | some ms =>
      cases z with
      | none => exact b1.elim
      | some bs =>
        exact bind_all hN b1 I1 re fun s2 σ2 I2 re2 => hb.run pins s2 σ2 H D I2 ⟨r, _, st, re2, m, h⟩
theorem psm_match {e : Expr} {m : ME} {cs : List MatchCase} {mc : IV → MS} (he : PEm X W e m) (hc : PCm X W cs mc) : PSm X W (.Match e cs pos) (sMatch m mc) := ⟨fun pins s σ H D I ⟨r, env, st, re, hm, h⟩ => by
  refine wpAny_Match (thn (he.run pins s σ H _ I ⟨r, env, st, re, hm, AftS.exp (rel := rV X.K) re hm h⟩) fun u s1 ⟨v, H1, I1, r1, x, r', st', x1, m1, rv, h1⟩ => ?_)
  exact hc true pins s1 σ H1 v u r' x env st' D I1 m1 (re.mono x1 hm) rv r1 h1⟩
end
end Sm

set_option Elab.async false
set_option linter.all false
set_option maxRecDepth 100000
set_option maxHeartbeats 4000000
namespace Sm
open L2 PySem PySem.Spec
/-! ### repr, raise, try -/
def toDs (f : IV → Option PyData) : List IV → Option (List PyData)
  | [] => some []
  | x :: xs => match f x, toDs f xs with
    | some a, some b => some (a :: b)
    | _, _ => none
def toD (st : Hs) : Nat → IV → Option PyData
  | 0, _ => none
  | n + 1, x => match x with
    | .non => some .none
    | .bl b => some (.bool b)
    | .int i => some (.int i)
    | .str z => some (.str z)
    | .tup xs => (toDs (toD st n) xs).map .tuple
    | .rl xs => (toDs (toD st n) xs).map .list
    | .ref a => (ioL st[a]?).bind fun xs => (toDs (toD st n) xs).map .list
def isSeqD : PyData → Bool
  | .tuple _ => true
  | .list _ => true
  | _ => false
def bRepr : On := fun xs st => match xs with
  | [x] => (toD st 40 x).bind fun d => if (isSeqD d && d.showable && !d.hasDict && decide (d.shown.length ≤ big)) = true then some (.str d.shown, st) else none
  | _ => none
section
variable {X : Cx} {W : WX} {pos : Pos} {H : Hp} {r : List Addr} {st : Hs}
theorem toDs_dp {f : IV → Option PyData} : ∀ {xs : List IV} {ds : List PyData} {vs : List V}, (∀ x d v, f x = some d → RV X.K H r x v → Dp X.K H v d) → toDs f xs = some ds → RVs X.K H r xs vs → DpAll X.K H vs ds
  | [], _, _, _, h, .nil => by cases h; exact .nil
  | x :: xs, ds, _, hf, h, .cons a b => by
    unfold toDs at h
    split at h
    · rename_i d ds' h1 h2
      cases h
      exact .cons (hf _ _ _ h1 a) (toDs_dp hf h2 b)
    · cases h
theorem toD_dp (m : Mt X.K H r st) : ∀ (n : Nat) (x : IV) (d : PyData) (v : V), toD st n x = some d → RV X.K H r x v → Dp X.K H v d
  | 0, _, _, _, h, _ => by cases h
  | n + 1, x, d, v, h, rv => by
    cases rv with
    | non => cases h; exact .non
    | bl b => cases h; exact .bl b
    | int i => cases h; exact .int i
    | str z => cases h; exact .str z
    | @tup p vs xs ht rs =>
      have h : (toDs (toD st n) xs).map PyData.tuple = some d := h
      cases k : toDs (toD st n) xs with
      | none => rw [k] at h; cases h
      | some ds => rw [k] at h; cases h; exact .tup ht (toDs_dp (toD_dp m n) k rs)
    | @rl p vs xs ht rs =>
      have h : (toDs (toD st n) xs).map PyData.list = some d := h
      cases k : toDs (toD st n) xs with
      | none => rw [k] at h; cases h
      | some ds => rw [k] at h; cases h; exact .lst ht.sq (toDs_dp (toD_dp m n) k rs)
    | @ref a p hp =>
      have h : (ioL st[a]?).bind (fun xs => (toDs (toD st n) xs).map PyData.list) = some d := h
      cases q : ioL st[a]? with
      | none => rw [q] at h; cases h
      | some xs =>
        rw [q] at h
        simp only [Option.bind_some] at h
        obtain ⟨vs, e1, rs⟩ := m.at_ _ _ _ (ioL_some q) hp
        cases k : toDs (toD st n) xs with
        | none => rw [k] at h; cases h
        | some ds => rw [k] at h; cases h; exact .lst (.inl (.inl e1)) (toDs_dp (toD_dp m n) k rs)
theorem toDs_depth {f : IV → Option PyData} {n : Nat} : ∀ {xs : List IV} {ds : List PyData}, (∀ x d, f x = some d → d.depth ≤ n) → toDs f xs = some ds → PyData.depthAll ds ≤ n
  | [], _, _, h => by cases h; exact Nat.zero_le _
  | x :: xs, ds, hf, h => by
    unfold toDs at h
    split at h
    · rename_i d ds' h1 h2
      cases h
      show max d.depth (PyData.depthAll ds') ≤ n
      have a := hf _ _ h1
      have b := toDs_depth hf h2
      omega
    · cases h
theorem toD_depth : ∀ (n : Nat) (x : IV) (d : PyData), toD st n x = some d → d.depth ≤ n
  | 0, _, _, h => by cases h
  | n + 1, x, d, h => by
    have go : ∀ xs ds, toDs (toD st n) xs = some ds → PyData.depthAll ds + 1 ≤ n + 1 := fun xs ds k => Nat.succ_le_succ (toDs_depth (toD_depth n) k)
    cases x with
    | non => cases h; exact Nat.zero_le _
    | bl b => cases h; exact Nat.zero_le _
    | int i => cases h; exact Nat.zero_le _
    | str z => cases h; exact Nat.zero_le _
    | tup xs =>
      have h : (toDs (toD st n) xs).map PyData.tuple = some d := h
      cases k : toDs (toD st n) xs with
      | none => rw [k] at h; cases h
      | some ds => rw [k] at h; cases h; exact go _ _ k
    | rl xs =>
      have h : (toDs (toD st n) xs).map PyData.list = some d := h
      cases k : toDs (toD st n) xs with
      | none => rw [k] at h; cases h
      | some ds => rw [k] at h; cases h; exact go _ _ k
    | ref a =>
      have h : (ioL st[a]?).bind (fun xs => (toDs (toD st n) xs).map PyData.list) = some d := h
      cases q : ioL st[a]? with
      | none => rw [q] at h; cases h
      | some xs =>
        rw [q] at h
        simp only [Option.bind_some] at h
        cases k : toDs (toD st n) xs with
        | none => rw [k] at h; cases h
        | some ds => rw [k] at h; cases h; exact go _ _ k
theorem cb_repr (hg : X.A.guards = some []) (hu : X.A.units + 64 < cLine) : CallR X (.builtin "repr") (rMs X.K bRepr) := by
  intro pins s σ H vs us Q I rv h0
  obtain ⟨r, xs, st, z, st', e, rs, m, h⟩ := rMs_inv h0
  revert e rs
  unfold bRepr
  split <;> intro e rs
  · rename_i x
    obtain ⟨v, rfl, rx⟩ := rvs_one rs
    obtain ⟨u, rfl, ru⟩ := Vals.one rv
    cases k : toD st 40 x with
    | none => rw [k] at e; cases e
    | some d =>
      rw [k] at e
      simp only [Option.bind_some] at e
      split at e
      · rename_i c
        cases e
        simp only [Bool.and_eq_true, Bool.not_eq_true', decide_eq_true_eq] at c
        obtain ⟨⟨⟨c1, c2⟩, c3⟩, c4⟩ := c
        have dp := toD_dp m 40 x d v k rx
        have dd := toD_depth 40 x d k
        obtain ⟨as, rd⟩ := Dp.reads I d v u dp ru
        have fin : ∀ p, u = .ref p → wpAny (model X.prog X.w) X.A (call (.builtin "repr") [u]) (EP X pins σ Q) X.xe s := fun p eu => by
          subst eu
          exact repr_of_reads' rd c2 (PyData.noDict_hsm c3) hg (by omega) (fun _ _ e => e) (fun h' tk tks hk => ⟨.str d.shown, H, I.kept hk, ⟨_, rfl⟩, h r H _ Xt.refl m (.str _)⟩) (by rw [← big_eq]; exact c4)
        cases dp with
        | lst _ _ => cases ru; exact fin _ rfl
        | tup _ _ => cases ru; exact fin _ rfl
        | _ => cases c1
      · cases e
  · cases e
/-- a class of the module that is an exception without own __init__ -/
def ExcAt (K : PySem.W.Frag) (mg : Str → Option Value) (n : Str) : Prop := ∃ (C : Addr) (B newId initId : String) (bmB : List Value), ExcBaseFacts B newId initId bmB ∧ PySem.W.excIn K C bmB newId = true ∧ mg n = some (.ref C) ∧ PySem.W.keepIn K (.ref C) = true ∧
  PySem.W.subIn K (.ref C) (.type "BaseException") = some true ∧ PySem.W.typeIn K (.ref C) = some (.type "type")
theorem psm_raise1 {n m : Str} {j : Nat} {p p2 pos' : Pos} (h : ExcAt X.K X.mg n) (hc : X.calm = true) (tk : L2.Takes X W) (hg : Gl X n) (hdb : (n == ("__debug__" : Str)) = false := by decide) : PSm X W (.Raise (some (.Call (.Name n p) [.Constant (.str m) j p2] [] pos')) none pos) (sRaise n) := by
  obtain ⟨C, B, newId, initId, bmB, F, q, gC, kC, h1, h2⟩ := h
  exact psm_raise hc tk (pmk_own F q gC kC (raises_own h1 h2) hg hdb) gC
/-- try: .. except c: .. ; sub tells which of the module's exceptions c takes -/
def sTry (b : MS) (sub : Str → Option Bool) (hd : MS) : MS := fun env st => match b env st with
  | .ex e env' st' => match sub e.c with
    | some true => match hd env' st' with
      | .ex _ _ _ => .no
      | x => x
    | some false => .ex e env' st'
    | none => .no
  | x => x
def SubAt (K : PySem.W.Frag) (mg : Str → Option Value) (c : Value) (sub : Str → Option Bool) : Prop := ∀ n cls b, sub n = some b → mg n = some cls → PySem.W.exmOne K cls c = some b
theorem psm_try {x : Str} {c : Value} {body suite : List Stmt} {b₀ : Stmt} {np pos' : Pos} {mb mh : MS} {sub : Str → Option Bool} (hs : X.stack = X.env :: X.outer) (hf : X.env.frame = some X.env.locals) (hc : Names X x c) (tk : L2.Takes X W) (hsub : SubAt X.K X.mg c sub)
    (hb : ∀ (W : WX) (pn : List (Addr × Obj)) (xe : Value → Shared → Prop), L2.Takes (X.tr pn xe) W → PassesOwn (model X.prog X.w) X.A X.env xe → PSsm (X.tr pn xe) W body mb)
    (hsu : ∀ (a : Addr) (oe : Obj) (pn : List (Addr × Obj)), PSsm (X.suite a ((a, oe) :: pn)) W0 (b₀ :: suite) mh) :
    PSm X W (.Try body [.ExceptHandler (some (.Name x np)) none (b₀ :: suite) pos'] [] [] pos) (sTry mb sub mh) :=
  PS.weak (ps_try_only (tb := fun W => tS X W mb) (ts := fun _ _ _ => tS X W0 mh) hs hf hc tk (fun W pn xe h1 h2 => hb W pn xe h1 h2) (fun a oe cls d pn _ _ => hsu a oe pn)) fun D σ H ⟨r, env, st, re, m, h⟩ => ⟨r, env, st, re, m, by
    unfold sTry at h
    cases q : mb env st with
    | no => rw [q] at h; exact h
    | nx e s2 => rw [q] at h; exact h
    | rt v s2 => rw [q] at h; exact h
    | bk e s2 => rw [q] at h; exact h
    | ct e s2 => rw [q] at h; exact h
    | ex e env' s2 =>
      rw [q] at h
      dsimp only at h
      intro r' H' σ' cls d x1 m1 re1 hx
      cases q2 : sub e.c with
      | none => rw [q2] at h; exact h.elim
      | some b =>
        rw [q2] at h
        refine ⟨b, hsub _ _ _ q2 hx.1, fun eb a ha => ?_, fun eb => ?_⟩
        · subst eb
          dsimp only at h
          refine ⟨r', env', s2, re1, m1, ?_⟩
          cases q3 : mh env' s2 with
          | ex _ _ _ => rw [q3] at h; exact h.elim
          | no => rw [q3] at h; exact h
          | nx e5 s5 => rw [q3] at h; exact AftS.later (W := W0) (x := .nx e5 s5) h x1
          | rt e5 s5 => rw [q3] at h; exact AftS.later (W := W0) (x := .rt e5 s5) h x1
          | bk e5 s5 => rw [q3] at h; exact AftS.later (W := W0) (x := .bk e5 s5) h x1
          | ct e5 s5 => rw [q3] at h; exact AftS.later (W := W0) (x := .ct e5 s5) h x1
        · subst eb
          exact h r' H' σ' cls d x1 m1 re1 hx⟩
end
end Sm
namespace Sm
open L2 PySem PySem.Spec
/-! ### a sign, types -/
def mNeg (m : ME) : ME := fun env => bnd (m env) fun x st => match x with
  | .int i => .ok (.int (-i)) st
  | _ => .no
theorem pem_neg {X : Cx} {W : WX} {pos : Pos} {e : Expr} {m : ME} (h : PEm X W e m) : PEm X W (.UnaryOp .USub e pos) (mNeg m) := PE.weak (pe_un un_neg h) fun σ H Q ⟨r, env, st, he, hm, h⟩ => ⟨r, env, st, he, hm, (Aft.split (rel := rV X.K) h).imp fun v H1 ⟨x, r1, st1, x1, m1, rv, h1⟩ => by
  cases rv with
  | int i => exact ⟨i, rfl, h1 r1 H1 _ Xt.refl m1 (.int _)⟩
  | _ => exact h1.elim⟩
theorem kit_int : ∀ t, t ∈ ["NoneType", "bool", "int", "str", "tuple", "list", "dict"] → kitB t "int" = some (subTy t "int") := by decide +kernel
theorem kit_bool : ∀ t, t ∈ ["NoneType", "bool", "int", "str", "tuple", "list", "dict"] → kitB t "bool" = some (subTy t "bool") := by decide +kernel
theorem kit_str : ∀ t, t ∈ ["NoneType", "bool", "int", "str", "tuple", "list", "dict"] → kitB t "str" = some (subTy t "str") := by decide +kernel
theorem kit_tuple : ∀ t, t ∈ ["NoneType", "bool", "int", "str", "tuple", "list", "dict"] → kitB t "tuple" = some (subTy t "tuple") := by decide +kernel
theorem kit_list : ∀ t, t ∈ ["NoneType", "bool", "int", "str", "tuple", "list", "dict"] → kitB t "list" = some (subTy t "list") := by decide +kernel
theorem kit_dict : ∀ t, t ∈ ["NoneType", "bool", "int", "str", "tuple", "list", "dict"] → kitB t "dict" = some (subTy t "dict") := by decide +kernel
end Sm
namespace Sm
open L2 PySem PySem.Spec
/-! ### a comprehension's scope, by a test -/
def blkB (N : List Str) (sc scope : Scope) (own : List (Str × Nat)) : Bool :=
  decide (scope.kind = .function) && (scope.names.all (fun y => decide (scope.names.lookup y.1 = some y.2)) && (own.all (fun p => decide (N[p.2]? = some p.1)) &&
    (scope.names.all (fun y => !decide (y.2 = .free) || (decide (sc.names.lookup y.1 = some .cell) || decide (sc.names.lookup y.1 = some .free))) &&
      scope.names.all (fun y => !(decide (y.2 = .local) || decide (y.2 = .cell)) || (decide (y.1 ∈ own.map (·.1)) || !decide (y.1 ∈ N))))))
theorem blk_ok {N : List Str} {sc scope : Scope} {own : List (Str × Nat)} (h : blkB N sc scope own = true) : BlkOk N sc scope own := by
  unfold blkB at h
  simp only [Bool.and_eq_true, List.all_eq_true, decide_eq_true_eq, Bool.or_eq_true, Bool.not_eq_true', decide_eq_false_iff_not, Bool.or_eq_false_iff] at h
  obtain ⟨h1, h2, h3, h4, h5⟩ := h
  exact ⟨h1, h2, h3, fun y hy e => (h4 y hy).elim (fun z => absurd e z) id, fun y hy e => (h5 y hy).elim (fun z => e.elim (fun q => absurd q z.1) (fun q => absurd q z.2)) id⟩
end Sm
namespace Sm
open L2 PySem PySem.Spec
/-! ### from the head's facts -/
theorem defAt_mk {K : PySem.W.Frag} {mg : Str → Option Value} {x : Str} {t : Stmt} {ps : List Str} {a : Addr} (h : ∃ fd, FunD K x x (defArgs t) (defBody t) (defScope t) [] [] a fd) (e : mg x = some (.ref a))
    (b : ∀ (kV doc pm : Value) (an : Option Addr) (cdv ct : Value) (us : List Value), us.length = ps.length → bindArgs (PySem.W.fnOf x x (defArgs t) (defBody t) (defScope t) .none kV doc pm an cdv ct) ⟨us, []⟩ = pure (ps.zip us)) : DefAt K mg x t ps := by
  obtain ⟨fd, F⟩ := h
  exact ⟨a, fd, He5.fun_of F, e, Fun.binds (He5.fun_of F) b⟩
theorem exc_mk {K : PySem.W.Frag} {mg : Str → Option Value} {n : Str} (c : (He.Fa.exc n).ok K = true) (e : mg n = some (.ref (He.ga K n))) : ExcAt K mg n := by
  obtain ⟨c1, c2, c3, c4⟩ := He.exc_ok c
  exact ⟨He.ga K n, _, _, _, _, PySem.F.excBase_ValueError, c1, e, c2, c3, c4⟩
inductive SubL (K : PySem.W.Frag) (mg : Str → Option Value) (c : Value) : List (Str × Bool) → Prop where
  | nil : SubL K mg c []
  | cons {n : Str} {C : Value} {b : Bool} {r : List (Str × Bool)} : mg n = some C → PySem.W.exmOne K C c = some b → SubL K mg c r → SubL K mg c ((n, b) :: r)
theorem subAt_mk {K : PySem.W.Frag} {mg : Str → Option Value} {c : Value} {l : List (Str × Bool)} (h : SubL K mg c l) : SubAt K mg c (fun n => l.lookup n) := by
  induction h with
  | nil => exact fun n cls b e => by cases e
  | @cons m C b r e1 e2 _ ih =>
    intro n cls b' e e3
    have e : List.lookup n ((m, b) :: r) = some b' := e
    rw [List.lookup_cons] at e
    cases q : n == m with
    | true =>
      rw [q] at e
      cases e
      have en : n = m := eq_of_beq q
      rw [en, e1] at e3
      cases e3
      exact e2
    | false =>
      rw [q] at e
      exact ih n cls b' e e3
theorem bind_of {K : PySem.W.Frag} {x p : Str} {t : Stmt} {f : Addr} {fd : FuncData} (F : Fun K x x t f fd)
    (h : ∀ (kV doc pm : Value) (an : Option Addr) (cdv ct : Value) (us : List Value), us.length = [p].length → bindArgs (PySem.W.fnOf x x (defArgs t) (defBody t) (defScope t) .none kV doc pm an cdv ct) ⟨us, []⟩ = pure ([p].zip us)) (s : Shared) (u : Value) : BindsTo s fd ⟨[u], []⟩ [(p, u)] := by
  obtain ⟨oc, od, kV, doc, pm, an, cdv, ct, osl, rfl, lk, hcd⟩ := F.ex
  exact .of_eq (h kV doc pm an cdv ct [u] rfl)
end Sm

set_option Elab.async false
set_option linter.all false
set_option maxRecDepth 100000
set_option maxHeartbeats 4000000
namespace Sm
open L2 PySem PySem.Spec
/-! ### facts about the mirrors, no program in sight -/
theorem at_nat {α : Type} (xs : List α) (k : Nat) : atI xs (k : Int) = xs[k]? := by
  unfold atI ixN
  rw [if_pos (by omega)]
  by_cases h : (k : Int) < xs.length
  · rw [if_pos h]
    simp
  · rw [if_neg h, List.getElem?_eq_none (by omega)]
    rfl
theorem at0 {α : Type} (xs : List α) : atI xs 0 = xs[0]? := at_nat xs 0
theorem at1 {α : Type} (xs : List α) : atI xs 1 = xs[1]? := at_nat xs 1
theorem at2 {α : Type} (xs : List α) : atI xs 2 = xs[2]? := at_nat xs 2
theorem at_int {α : Type} (xs : List α) {i : Int} (h : 0 ≤ i) : atI xs i = xs[i.toNat]? := by
  have e := at_nat xs i.toNat
  rwa [Int.toNat_of_nonneg h] at e
theorem at_m1 {α : Type} (xs : List α) : atI xs (-1) = xs.getLast? := by
  unfold atI ixN
  rw [if_neg (by decide)]
  cases xs with
  | nil => rfl
  | cons x xs =>
    rw [if_pos (by simp; omega), List.getLast?_eq_getElem?]
    show (x :: xs)[(-1 + ((x :: xs).length : Int)).toNat]? = _
    congr 1
    simp
    omega
theorem emod_bd (i j : Int) (h : 0 < j) : 0 ≤ i % j ∧ i % j < j := ⟨Int.emod_nonneg _ (by omega), Int.emod_lt_of_pos _ h⟩
/-! sizes -/
theorem bg1 : 1 ≤ big := by decide
theorem bg2 : 2 ≤ big := by decide
theorem bg3 : 3 ≤ big := by decide
theorem bg4 : 4 ≤ big := by decide
theorem bg5 : 5 ≤ big := by decide
theorem bg6 : 6 ≤ big := by decide
theorem bg7 : 7 ≤ big := by decide
theorem bg8 : 8 ≤ big := by decide
theorem bg9 : 9 ≤ big := by decide
theorem bg10 : 10 ≤ big := by decide
theorem bg11 : 11 ≤ big := by decide
theorem bg12 : 12 ≤ big := by decide
theorem bg13 : 13 ≤ big := by decide
theorem bg14 : 14 ≤ big := by decide
theorem bg15 : 15 ≤ big := by decide
theorem bg16 : 16 ≤ big := by decide
theorem bg17 : 17 ≤ big := by decide
theorem bg18 : 18 ≤ big := by decide
theorem bg19 : 19 ≤ big := by decide
theorem bg20 : 20 ≤ big := by decide
/-! calls -/
theorem runC_ref {f : List IV → M IV} {a : Nat} {xs : List IV} {st : Hs} : runC f (.ref a :: xs) st = f (.ref a :: xs) st := by
  unfold runC
  rw [if_neg (by simp [clIs, clI])]
theorem runC_cl {f : List IV → M IV} {xs : List IV} {st : Hs} {v : IV} (h : clIs xs = true) (hv : clI v = true) (e : ∃ s, f xs [] = .ok v s) : runC f xs st = .ok v st := by
  obtain ⟨s, e⟩ := e
  unfold runC
  rw [if_pos h, e]
  simp [hv]
/-! known: each reference in it is one -/
mutual
def knI (st : Hs) : IV → Bool
  | .tup xs => knIs st xs
  | .ref a => (st[a]?).isSome
  | .str z => decide (z.length ≤ big)
  | _ => true
def knIs (st : Hs) : List IV → Bool
  | [] => true
  | x :: xs => knI st x && knIs st xs
end
mutual
theorem kn_cl {st st' : Hs} : ∀ x : IV, clI x = true → knI st x = true → knI st' x = true
  | .tup xs, h, k => kns_cl xs h k
  | .non, _, _ => rfl
  | .bl _, _, _ => rfl
  | .int _, _, _ => rfl
  | .str _, _, k => k
  | .rl _, _, _ => rfl
  | .ref _, h, _ => by cases h
theorem kns_cl {st st' : Hs} : ∀ xs : List IV, clIs xs = true → knIs st xs = true → knIs st' xs = true
  | [], _, _ => rfl
  | x :: xs, h, k => by
    have h := Bool.and_eq_true_iff.mp (show (clI x && clIs xs) = true from h)
    have k := Bool.and_eq_true_iff.mp (show (knI st x && knIs st xs) = true from k)
    exact Bool.and_eq_true_iff.mpr ⟨kn_cl x h.1 k.1, kns_cl xs h.2 k.2⟩
end
theorem kns_mem {st : Hs} : ∀ {xs : List IV} {x : IV}, knIs st xs = true → x ∈ xs → knI st x = true
  | y :: ys, x, h, m => by
    have h := Bool.and_eq_true_iff.mp (show (knI st y && knIs st ys) = true from h)
    rcases List.mem_cons.mp m with e | m
    · rw [e]; exact h.1
    · exact kns_mem h.2 m
theorem kns_all {st : Hs} : ∀ {xs : List IV}, (∀ x ∈ xs, knI st x = true) → knIs st xs = true
  | [], _ => rfl
  | y :: ys, h => Bool.and_eq_true_iff.mpr ⟨h y (by simp), kns_all fun x hx => h x (by simp [hx])⟩
theorem cls_mem : ∀ {xs : List IV} {x : IV}, clIs xs = true → x ∈ xs → clI x = true
  | y :: ys, x, h, m => by
    have h := Bool.and_eq_true_iff.mp (show (clI y && clIs ys) = true from h)
    rcases List.mem_cons.mp m with e | m
    · rw [e]; exact h.1
    · exact cls_mem h.2 m
theorem cls_all : ∀ {xs : List IV}, (∀ x ∈ xs, clI x = true) → clIs xs = true
  | [], _ => rfl
  | y :: ys, h => Bool.and_eq_true_iff.mpr ⟨h y (by simp), cls_all fun x hx => h x (by simp [hx])⟩
theorem ty_kn {st : Hs} {x : IV} (h : knI st x = true) : ∃ t, tyName st x = some t := by
  cases x with
  | ref a =>
    have h : (st[a]?).isSome = true := h
    unfold tyName
    dsimp only
    cases q : st[a]? with
    | none => rw [q] at h; cases h
    | some o => cases o <;> exact ⟨_, rfl⟩
  | _ => exact ⟨_, rfl⟩
theorem kn_app {st l : Hs} : ∀ {x : IV}, knI st x = true → knI (st ++ l) x = true := by
  intro x h
  have go : (∀ x : IV, knI st x = true → knI (st ++ l) x = true) := fun x => IV.rec (motive_1 := fun x => knI st x = true → knI (st ++ l) x = true) (motive_2 := fun xs => knIs st xs = true → knIs (st ++ l) xs = true)
    (fun h => h) (fun _ h => h) (fun _ h => h) (fun z h => h) (fun xs ih h => ih h) (fun _ _ h => rfl)
    (fun a h => by
      have h : (st[a]?).isSome = true := h
      show ((st ++ l)[a]?).isSome = true
      obtain ⟨o, e⟩ := Option.isSome_iff_exists.mp h
      rw [List.getElem?_append_left (List.getElem?_eq_some_iff.mp e).1, e]
      rfl)
    (fun h => h) (fun x xs i1 i2 h => by
      have h := Bool.and_eq_true_iff.mp (show (knI st x && knIs st xs) = true from h)
      exact Bool.and_eq_true_iff.mpr ⟨i1 h.1, i2 h.2⟩) x
  exact go x h
/-- a known value against a text in a pattern -/
def isStr (z : Str) : IV → Bool
  | .str y => y == z
  | _ => false
theorem eqP_str {st : Hs} {x : IV} {z : Str} (h : knI st x = true) : eqP st x (.str z) = some (isStr z x) := by
  cases x with
  | ref a =>
    have h : (st[a]?).isSome = true := h
    unfold eqP
    dsimp only
    cases q : st[a]? with
    | none => rw [q] at h; cases h
    | some o =>
      cases o with
      | dct kvs => rfl
      | lst xs =>
        dsimp only
        unfold eqI
        simp [lstOf, ioL, q, isDat, isStr]
  | non => rfl
  | bl _ => rfl
  | int _ => rfl
  | str _ => rfl
  | tup _ => rfl
  | rl _ => rfl
/-- is the tuple empty -/
theorem eqI_tup0 {st : Hs} {xs : List IV} : eqI st 40 (.tup xs) (.tup []) = some (xs.length == 0) := by
  cases xs with
  | nil => rfl
  | cons x xs => rfl
theorem eqI_lst0 {st : Hs} {a b : Nat} {xs : List IV} (h : ioL st[a]? = some xs) (g : ioL st[b]? = some []) : eqI st 40 (.ref a) (.ref b) = some (xs.length == 0) := by
  unfold eqI
  simp only [lstOf, h, g]
  cases xs with
  | nil => rfl
  | cons x xs => rfl
theorem eqI_int {st : Hs} {i j : Int} : eqI st 40 (.int i) (.int j) = some (i == j) := rfl
theorem eqI_str {st : Hs} {i j : Str} : eqI st 40 (.str i) (.str j) = some (i == j) := rfl
/-! comprehensions -/
/-- each turn gives a value that keeps Pr, and the state moves by Rl -/
theorem goLc_all {s : Src} {g : MG} {m : ME} {env : Env} {Pr : IV → Prop} {Rl : Hs → Hs → Prop} (rf : ∀ st st', Rl st st' → Rl st' st') (tr : ∀ a b c, Rl a b → Rl b c → Rl a c)
    (fin : ∀ st, Rl st st → s.fin st = true)
    (hb : ∀ i st, i < s.n → Rl st st → ∃ x env' y st', s.item i st = some x ∧ g x env st = .ok env' st ∧ m env' st = .ok y st' ∧ Pr y ∧ Rl st st') :
    ∀ (k i : Nat) (acc : List IV) (st : Hs), i + k = s.n → s.n ≤ big → acc.length = i → Rl st st → (∀ x ∈ acc, Pr x) → ∃ xs st', goLc s g mtYes m env k i acc st = .ok xs st' ∧ xs.length = s.n ∧ (∀ x ∈ xs, Pr x) ∧ Rl st st'
  | 0, i, acc, st, ek, hn, hl, h, ha => by
    refine ⟨acc, st, ?_, by omega, ha, h⟩
    unfold goLc
    rw [if_pos (fin st h)]
  | k + 1, i, acc, st, ek, hn, hl, h, ha => by
    obtain ⟨x, env', y, st', e1, e2, e3, hy, h'⟩ := hb i st (by omega) h
    obtain ⟨xs, st2, e4, e5, e6, e7⟩ := goLc_all rf tr fin hb k (i + 1) (acc ++ [y]) st' (by omega) hn (by simp [hl]) (rf _ _ h') (fun z hz => by
      rcases List.mem_append.mp hz with q | q
      · exact ha z q
      · rw [List.mem_singleton.mp q]; exact hy)
    refine ⟨xs, st2, ?_, e5, e6, tr _ _ _ h' e7⟩
    unfold goLc
    simp only [e1, e2, mtYes, Sm.ret, e3]
    rw [if_pos (by omega)]
    exact e4
/-- each turn gives what F tells of the turn, and leaves the state but for new objects -/
theorem goLc_map {s : Src} {g : MG} {m : ME} {env : Env} {F : Nat → IV} (Rl : Hs → Prop) (ap : ∀ st l, Rl st → Rl (st ++ l)) (fin : ∀ st, Rl st → s.fin st = true)
    (hb : ∀ i st, i < s.n → Rl st → ∃ x env' l, s.item i st = some x ∧ g x env st = .ok env' st ∧ m env' st = .ok (F i) (st ++ l)) :
    ∀ (k i : Nat) (acc : List IV) (st : Hs), i + k = s.n → s.n ≤ big → acc.length = i → Rl st → ∃ l, goLc s g mtYes m env k i acc st = .ok (acc ++ (List.range' i k).map F) (st ++ l)
  | 0, i, acc, st, ek, hn, hl, h => by
    refine ⟨[], ?_⟩
    unfold goLc
    rw [if_pos (fin st h)]
    simp
  | k + 1, i, acc, st, ek, hn, hl, h => by
    obtain ⟨x, env', l, e1, e2, e3⟩ := hb i st (by omega) h
    obtain ⟨l2, e4⟩ := goLc_map Rl ap fin hb k (i + 1) (acc ++ [F i]) (st ++ l) (by omega) hn (by simp [hl]) (ap _ _ h)
    refine ⟨l ++ l2, ?_⟩
    unfold goLc
    simp only [e1, e2, mtYes, Sm.ret, e3]
    rw [if_pos (by omega), e4]
    simp [List.range'_succ]
theorem bls_map {bs : List Bool} : blsOf (bs.map IV.bl) = some bs := by
  induction bs with
  | nil => rfl
  | cons b bs ih => simp [blsOf, ih]
theorem strs_map {zs : List Str} : strsOf (zs.map IV.str) = some zs := by
  induction zs with
  | nil => rfl
  | cons b bs ih => simp [strsOf, ih]
theorem goLc_seq {x : IV} {ys : List IV} {j : Nat} {m : ME} {env : Env} {F : IV → IV} (Rl : Hs → Prop) (ap : ∀ st l, Rl st → Rl (st ++ l)) (hs : ∀ st, Rl st → seqOf st x = some ys)
    (hb : ∀ y ∈ ys, ∀ st, Rl st → ∃ l, m (env.set j (some y)) st = .ok (F y) (st ++ l)) (hn : ys.length ≤ big) (st : Hs) (h : Rl st) : ∃ l, goLc (.seq x ys.length) (gNm j) mtYes m env ys.length 0 [] st = .ok (ys.map F) (st ++ l) := by
  have e := goLc_map (s := .seq x ys.length) (g := gNm j) (m := m) (env := env) (F := fun i => match ys[i]? with
    | some y => F y
    | none => .non) Rl ap (fun st h => by simp [Src.fin, hs st h]) (fun i st hi h => by
      have hi : i < ys.length := hi
      obtain ⟨l, e⟩ := hb _ (List.getElem_mem hi) st h
      exact ⟨ys[i], _, l, by simp [Src.item, hs st h, hi], rfl, by rw [List.getElem?_eq_getElem hi]; exact e⟩) ys.length 0 [] st (Nat.zero_add _) hn rfl h
  obtain ⟨l, e⟩ := e
  refine ⟨l, ?_⟩
  rw [e, List.nil_append]
  congr 1
  apply List.ext_getElem
  · simp
  · intro i h1 h2
    have h1 : i < ys.length := by simpa using h1
    rw [List.getElem_map, List.getElem_map, List.getElem_range', Nat.zero_add, Nat.one_mul, List.getElem?_eq_getElem h1]
/-! slices -/
theorem cut_m1 {α : Type} (xs : List α) : cutI xs none (some (-1)) = xs.dropLast := by
  unfold cutI HT.sIx
  rw [List.dropLast_eq_take]
  simp
  congr 1
  omega
theorem cut_to {α : Type} (xs : List α) (k : Nat) : cutI xs none (some (k : Int)) = xs.take k := by
  unfold cutI
  rw [HT.sIx_none, HT.sIx_nat, List.drop_zero, Nat.sub_zero]
  by_cases h : k ≤ xs.length
  · rw [Nat.min_eq_left h]
  · rw [Nat.min_eq_right (by omega), List.take_length, List.take_of_length_le (by omega)]
theorem cut_from {α : Type} (xs : List α) (k : Nat) : cutI xs (some (k : Int)) none = xs.drop k := by
  unfold cutI
  rw [HT.sIx_none, HT.sIx_nat]
  by_cases h : k ≤ xs.length
  · rw [Nat.min_eq_left h]
    rw [List.take_of_length_le (by simp)]
  · rw [Nat.min_eq_right (by omega), List.drop_length, List.drop_eq_nil_of_le (by omega)]
    simp
end Sm

set_option Elab.async false
set_option linter.all false
set_option maxRecDepth 100000
set_option maxHeartbeats 0
namespace K01
open Sm L2 PySem PySem.Spec
def sub_InvalidSituation : Str → Option Bool := fun n => ([(("InvalidSituation" : Str), true)] : List (Str × Bool)).lookup n
/-! the mirrors -/
def b_is_integer : MS := (sRet (mAnd (mIsi "int" (mVar 0)) (mAnd (mNot (mIsi "bool" (mVar 0))) (mChain oLt oLt (mNeg (mC (.int 10000000000000000000000000000000000000000))) (mVar 0) (mC (.int 10000000000000000000000000000000000000000))))))
def f_is_integer : List IV → M IV := mDef 1 b_is_integer
def b_is_below : MS := (sRet (mAnd (mCall f_is_integer (maC (mVar 0) maN)) (mChain oLe oLt (mC (.int 0)) (mVar 0) (mVar 1))))
def f_is_below : List IV → M IV := mDef 2 b_is_below
def b_is_name : MS := (sSeq (sIf (mtOr (mtNot (mtB (mIsi "str" (mVar 0)))) (mtNot (mtB (mChain oLt oLe (mC (.int 0)) (mB bLen (maC (mVar 0) maN)) (mC (.int 8)))))) (sRet (mC (.bl false))) sNx)
    (sRet (mB bAll (maC (mLc (iTx (mVar 0)) (gNm 1) mtYes (mBin oIn (mVar 1) (mC (.str "abcdefghijklmnopqrstuvwxyz"))) [1]) maN))))
def f_is_name : List IV → M IV := mDef 2 b_is_name
def b_is_pair : MS := (sRet (mAnd (mIsi "tuple" (mVar 0)) (mAnd (mBin oEq (mB bLen (maC (mVar 0) maN)) (mC (.int 2))) (mAnd (mCall f_is_name (maC (mBin oIx (mVar 0) (mC (.int 0))) maN)) (mCall f_is_below (maC (mBin oIx (mVar 0) (mC (.int 1))) (maC (mVar 1) maN)))))))
def f_is_pair : List IV → M IV := mDef 2 b_is_pair
def b_is_situation : MS := (sSeq (sIf (mtOr (mtNot (mtB (mIsi "tuple" (mVar 0)))) (mtOr (mtB (mBin oNe (mB bLen (maC (mVar 0) maN)) (mC (.int 2)))) (mtNot (mtB (mCall f_is_below (maC (mBin oIx (mVar 0) (mC (.int 0))) (maC (mC (.int 5)) maN))))))) (sRet (mC (.bl false))) sNx)
    (sSeq (sAsg (mBin oIx (mVar 0) (mC (.int 1))) (gNm 1))
    (sSeq (sIf (mtOr (mtNot (mtB (mIsi "tuple" (mVar 1)))) (mtNot (mtB (mB bAll (maC (mLc (iTp (mSl (mVar 1) mNo (mPt (mNeg (mC (.int 1)))))) (gNm 2) mtYes (mCall f_is_pair (maC (mVar 2) (maC (mC (.int 12)) maN))) [2]) maN))))) (sRet (mC (.bl false))) sNx)
    (sRet (mOr (mBin oEq (mVar 1) (mTup maN)) (mCall f_is_pair (maC (mBin oIx (mVar 1) (mNeg (mC (.int 1)))) (maC (mC (.int 6)) maN))))))))
def f_is_situation : List IV → M IV := mDef 3 b_is_situation
def b_spot_by : MS := (sSeq (sAsg (mVar 0) (gTp 2 (gsC (gNm 1) (gsC (gNm 2) gsN))))
    (sSeq (sIf (mtB (mBin oEq (mVar 2) (mTup maN))) (sRet (mTup (maC (mVar 1) maN))) sNx)
    (sSeq (sAsg (mBin oIx (mVar 2) (mNeg (mC (.int 1)))) (gTp 2 (gsC (gNm 3) (gsC (gNm 4) gsN))))
    (sRet (mTup (maC (mVar 3) (maC (mVar 4) (maC (mVar 1) maN))))))))
def f_spot_by : List IV → M IV := mDef 5 b_spot_by
def b_spot_of : MS := (sSeq (sIf (mtNot (mtB (mCall f_is_situation (maC (mVar 0) maN)))) (sRaise "InvalidSituation") sNx)
    (sRet (mCall f_spot_by (maC (mVar 0) maN))))
def f_spot_of : List IV → M IV := mDef 1 b_spot_of
def b__law_is_refused : MS := (sSeq (sTry (sExp (mCall f_spot_of (maC (mVar 0) maN))) sub_InvalidSituation (sRet (mC (.bl true))))
    (sRet (mC (.bl false))))
def f__law_is_refused : List IV → M IV := mDef 1 b__law_is_refused
def b__law_take : MS := (sSeq (sIf (mtB (mBin oGt (mBin oIx (mVar 0) (mC (.int 0))) (mC (.int 0)))) (sSeq (sAsg (mBin oMod (mB bInt (maC (mBin oIx (mVar 0) (mC (.int 0))) maN)) (mVar 1)) (gNm 2))
    (sSeq (sAsg (mBin oFdv (mBin oIx (mVar 0) (mC (.int 0))) (mVar 1)) (gSb (mVar 0) (mC (.int 0))))
    (sRet (mVar 2)))) sNx)
    (sSeq (sAsg (mBin oAdd (mBin oIx (mVar 0) (mC (.int 2))) (mC (.int 1))) (gSb (mVar 0) (mC (.int 2))))
    (sSeq (sAsg (mBin oMod (mB bInt (maC (mBin oAdd (mBin oIx (mVar 0) (mC (.int 1))) (mBin oMul (mC (.int 1299709)) (mBin oIx (mVar 0) (mC (.int 2))))) maN)) (mC (.int 2305843009213693951))) (gNm 3))
    (sSeq (sAsg (mBin oMod (mB bInt (maC (mBin oAdd (mBin oMul (mVar 3) (mVar 3)) (mBin oMul (mC (.int 7919)) (mBin oIx (mVar 0) (mC (.int 2))))) maN)) (mC (.int 1000000000039))) (gNm 4))
    (sSeq (sAsg (mBin oMod (mB bInt (maC (mBin oAdd (mBin oMul (mVar 4) (mVar 4)) (mVar 3)) maN)) (mC (.int 998244353))) (gNm 5))
    (sRet (mBin oMod (mB bInt (maC (mBin oFdv (mVar 5) (mC (.int 61))) maN)) (mVar 1))))))))
def f__law_take : List IV → M IV := mDef 6 b__law_take
def b__law_name : MS := (sSeq (sAsg (mC (.str "abcdefghijklmnopqrstuvwxyz")) (gNm 1))
    (sRet (mJoin (mC (.str "")) (mLc (iRg1 (maC (mBin oAdd (mC (.int 1)) (mCall f__law_take (maC (mVar 0) (maC (mC (.int 8)) maN)))) maN)) (gNm 2) mtYes (mBin oIx (mVar 1) (mCall f__law_take (maC (mVar 0) (maC (mC (.int 26)) maN)))) [2]))))
def f__law_name : List IV → M IV := mDef 3 b__law_name
def b__law_one : MS := (sRet (mBin oIx (mVar 1) (mCall f__law_take (maC (mVar 0) (maC (mB bLen (maC (mVar 1) maN)) maN)))))
def f__law_one : List IV → M IV := mDef 2 b__law_one
def b__law_situation : MS := (sSeq (sAsg (mLc (iRg1 (maC (mCall f__law_take (maC (mVar 0) (maC (mC (.int 4)) maN))) maN)) (gNm 2) mtYes (mTup (maC (mCall f__law_name (maC (mVar 0) maN)) (maC (mCall f__law_one (maC (mVar 0) (maC (mLst (maC (mC (.int 0)) (maC (mC (.int 11)) (maC (mCall f__law_take (maC (mVar 0) (maC (mC (.int 12)) maN))) maN)))) maN))) maN))) [2]) (gNm 1))
    (sSeq (sIf (mtB (mBin oGt (mCall f__law_take (maC (mVar 0) (maC (mC (.int 5)) maN))) (mC (.int 0)))) (sExp (mMth tAppend (mVar 1) (maC (mTup (maC (mCall f__law_name (maC (mVar 0) maN)) (maC (mCall f__law_one (maC (mVar 0) (maC (mLst (maC (mC (.int 0)) (maC (mC (.int 5)) (maC (mCall f__law_take (maC (mVar 0) (maC (mC (.int 6)) maN))) maN)))) maN))) maN))) maN))) (sIf (mtB (mBin oNe (mVar 1) (mLst maN))) (sAsg (mTup (maC (mBin oIx (mBin oIx (mVar 1) (mNeg (mC (.int 1)))) (mC (.int 0))) (maC (mCall f__law_take (maC (mVar 0) (maC (mC (.int 6)) maN))) maN))) (gSb (mVar 1) (mNeg (mC (.int 1))))) sNx))
    (sRet (mTup (maC (mCall f__law_take (maC (mVar 0) (maC (mC (.int 5)) maN))) (maC (mVar 1) maN))))))
def f__law_situation : List IV → M IV := mDef 3 b__law_situation
def b__law_spoilt : MS := (sSeq (sPar2 2 3 (maC (mCall f__law_take (maC (mVar 0) (maC (mC (.int 4)) maN))) (maC (mCall f__law_take (maC (mVar 0) (maC (mB bLen (maC (mVar 1) maN)) maN))) maN)))
    (sSeq (sIf (mtB (mBin oEq (mVar 2) (mC (.int 0)))) (sRet (mB bList (maC (mVar 1) maN))) sNx)
    (sSeq (sIf (mtB (mBin oEq (mVar 2) (mC (.int 1)))) (sSeq (sAsg (mBin oAdd (mC (.int 1)) (mBin oMod (mVar 3) (mBin oSub (mB bLen (maC (mVar 1) maN)) (mC (.int 1))))) (gNm 3))
    (sRet (mBin oAdd (mSl (mVar 1) mNo (mPt (mVar 3))) (mSl (mVar 1) (mPt (mBin oAdd (mVar 3) (mC (.int 1)))) mNo)))) sNx)
    (sSeq (sIf (mtB (mBin oEq (mVar 2) (mC (.int 2)))) (sRet (mBin oAdd (mVar 1) (mTup (maC (mBin oIx (mVar 1) (mNeg (mC (.int 1)))) maN)))) sNx)
    (sSeq (sAsg (mCall f__law_one (maC (mVar 0) (maC (mLst (maC (mC .non) (maC (mC (.bl true)) (maC (mNeg (mC (.int 1))) (maC (mC (.int 12)) (maC (mC (.str "")) (maC (mC (.str "A")) (maC (mC (.str "abcdefghi")) (maC (mTup (maC (mC (.int 0)) maN)) (maC (mLst maN) (maC mDct (maC (mBin oPow (mC (.int 10)) (mC (.int 30))) maN)))))))))))) maN))) (gNm 4))
    (sRet (mBin oAdd (mBin oAdd (mSl (mVar 1) mNo (mPt (mVar 3))) (mTup (maC (mVar 4) maN))) (mSl (mVar 1) (mPt (mBin oAdd (mVar 3) (mC (.int 1)))) mNo))))))))
def f__law_spoilt : List IV → M IV := mDef 5 b__law_spoilt
def b__law_step : MS := (sSeq (sPar3 1 2 3 (maC (mCall f__law_name (maC (mVar 0) maN)) (maC (mCall f__law_take (maC (mVar 0) (maC (mC (.int 6)) maN))) (maC (mCall f__law_one (maC (mVar 0) (maC (mLst (maC (mC (.int 0)) (maC (mC (.int 11)) (maC (mCall f__law_take (maC (mVar 0) (maC (mC (.int 12)) maN))) maN)))) maN))) maN))))
    (sSeq (sAsg (mCall f__law_one (maC (mVar 0) (maC (mLst (maC (mC (.int 0)) (maC (mC (.int 4)) (maC (mCall f__law_take (maC (mVar 0) (maC (mC (.int 5)) maN))) maN)))) maN))) (gNm 4))
    (sSeq (sAsg (mCall f__law_take (maC (mVar 0) (maC (mC (.int 4)) maN))) (gNm 5))
    (sSeq (sIf (mtB (mBin oEq (mVar 5) (mC (.int 0)))) (sRet (mTup (maC (mC (.str "end")) (maC (mVar 2) (maC (mVar 4) maN))))) sNx)
    (sSeq (sIf (mtB (mBin oEq (mVar 5) (mC (.int 1)))) (sRet (mTup (maC (mC (.str "leave")) (maC (mVar 1) (maC (mVar 2) (maC (mCall f__law_name (maC (mVar 0) maN)) (maC (mVar 3) (maC (mVar 4) maN)))))))) sNx)
    (sRet (mTup (maC (mCall f__law_one (maC (mVar 0) (maC (mLst (maC (mC (.str "set")) (maC (mC (.str "call")) maN))) maN))) (maC (mVar 1) (maC (mVar 3) (maC (mVar 4) maN)))))))))))
def f__law_step : List IV → M IV := mDef 6 b__law_step
def b_is_step : MS := (sSeq (sIf (mtOr (mtNot (mtB (mIsi "tuple" (mVar 0)))) (mtOr (mtB (mBin oEq (mVar 0) (mTup maN))) (mtNot (mtB (mCall f_is_below (maC (mBin oIx (mVar 0) (mNeg (mC (.int 1)))) (maC (mC (.int 5)) maN))))))) (sRet (mC (.bl false))) sNx)
    (sSeq (sMatch (mVar 0) (cC (pSeq 4 (psC (pVal (.str "set")) (psC (pCap 1) (psC (pCap 2) (psC (pCap 3) psN))))) (sRet (mCall f_is_pair (maC (mTup (maC (mVar 1) (maC (mVar 2) maN))) (maC (mC (.int 12)) maN))))
    (cC (pSeq 4 (psC (pVal (.str "call")) (psC (pCap 1) (psC (pCap 2) (psC (pCap 3) psN))))) (sRet (mCall f_is_pair (maC (mTup (maC (mVar 1) (maC (mVar 2) maN))) (maC (mC (.int 12)) maN))))
    (cC (pSeq 6 (psC (pVal (.str "leave")) (psC (pCap 1) (psC (pCap 4) (psC (pCap 5) (psC (pCap 2) (psC (pCap 3) psN))))))) (sRet (mAnd (mCall f_is_pair (maC (mTup (maC (mVar 1) (maC (mVar 4) maN))) (maC (mC (.int 6)) maN))) (mCall f_is_pair (maC (mTup (maC (mVar 5) (maC (mVar 2) maN))) (maC (mC (.int 12)) maN)))))
    (cC (pSeq 3 (psC (pVal (.str "end")) (psC (pCap 6) (psC (pCap 3) psN)))) (sRet (mCall f_is_below (maC (mVar 6) (maC (mC (.int 6)) maN))))
    cN)))))
    (sRet (mC (.bl false)))))
def f_is_step : List IV → M IV := mDef 7 b_is_step
def b__law_right_0 : MS := (sAsg (mCall f__law_situation (maC (mVar 0) maN)) (gTp 2 (gsC (gNm 1) (gsC (gNm 2) gsN))))
def b__law_right_1 : MS := (sPar2 3 4 (maC (mTup (maC (mVar 1) (maC (mB bTuple (maC (mVar 2) maN)) maN))) (maC (mCall f__law_step (maC (mVar 0) maN)) maN)))
def b__law_right_2 : MS := (sAsg (mIf (mtB (mBin oNe (mVar 2) (mLst maN))) (mBin oAdd (mBin oIx (mVar 2) (mNeg (mC (.int 1)))) (mTup (maC (mVar 1) maN))) (mTup (maC (mVar 1) maN))) (gNm 5))
def b__law_right_3 : MS := (sIf (mtOr (mtNot (mtB (mCall f_is_situation (maC (mVar 3) maN)))) (mtOr (mtB (mBin oNe (mB bRepr (maC (mCall f_spot_of (maC (mVar 3) maN)) maN)) (mB bRepr (maC (mVar 5) maN)))) (mtNot (mtB (mCall f_is_step (maC (mVar 4) maN)))))) (sRet (mC (.bl false))) sNx)
def b__law_right_4 : MS := (sIf (mtOr (mtB (mCall f_is_step (maC (mCall f__law_spoilt (maC (mVar 0) (maC (mVar 4) maN))) maN))) (mtB (mCall f_is_situation (maC (mCall f__law_spoilt (maC (mVar 0) (maC (mVar 3) maN))) maN)))) (sRet (mC (.bl false))) sNx)
def b__law_right_5 : MS := (sIf (mtB (mBin oNe (mVar 2) (mLst maN))) (sSeq (sAsg (mCall f__law_take (maC (mVar 0) (maC (mB bLen (maC (mVar 2) maN)) maN))) (gNm 6))
    (sSeq (sAsg (mCall f__law_spoilt (maC (mVar 0) (maC (mBin oIx (mVar 2) (mVar 6)) maN))) (gNm 7))
    (sIf (mtB (mCall f_is_situation (maC (mTup (maC (mVar 1) (maC (mB bTuple (maC (mBin oAdd (mBin oAdd (mSl (mVar 2) mNo (mPt (mVar 6))) (mLst (maC (mVar 7) maN))) (mSl (mVar 2) (mPt (mBin oAdd (mVar 6) (mC (.int 1)))) mNo)) maN)) maN))) maN))) (sRet (mC (.bl false))) sNx))) sNx)
def b__law_right_6 : MS := (sAsg (mBin oAdd (mVar 2) (mLst (maC (mTup (maC (mCall f__law_name (maC (mVar 0) maN)) (maC (mCall f__law_one (maC (mVar 0) (maC (mLst (maC (mC (.int 6)) (maC (mC (.int 11)) maN))) maN))) maN))) maN))) (gNm 8))
def b__law_right_7 : MS := (sRet (mAnd (mNot (mCall f_is_situation (maC (mTup (maC (mVar 1) (maC (mB bTuple (maC (mVar 8) maN)) maN))) maN))) (mAnd (mNot (mCall f_is_situation (maC (mTup (maC (mVar 1) (maC (mVar 2) maN))) maN))) (mNot (mCall f_is_step (maC (mVar 3) maN))))))
def b__law_right : MS := (sSeq b__law_right_0 (sSeq b__law_right_1 (sSeq b__law_right_2 (sSeq b__law_right_3 (sSeq b__law_right_4 (sSeq b__law_right_5 (sSeq b__law_right_6 b__law_right_7)))))))
def f__law_right : List IV → M IV := mDef 9 b__law_right
def b__law_urn : MS := (sSeq (sAsg (mIf (mtB (mBin oLt (mVar 1) (mB bLen (maC (mVar 0) maN)))) (mBin oIx (mVar 0) (mVar 1)) (mBin oAdd (mBin oMul (mC (.int 83)) (mVar 1)) (mC (.int 37)))) (gNm 2))
    (sSeq (sAsg (mBin oMod (mB bInt (maC (mB bAbs (maC (mVar 2) maN)) maN)) (mBin oPow (mBin oPow (mC (.int 10)) (mC (.int 60))) (mC (.int 9)))) (gNm 3))
    (sSeq (sAsg (mBin oMod (mB bInt (maC (mBin oAdd (mBin oAdd (mBin oAdd (mBin oMul (mVar 3) (mC (.int 104651))) (mBin oMul (mC (.int 15331)) (mVar 1))) (mBin oMul (mC (.int 43)) (mB bInt (maC (mBin oLt (mVar 2) (mC (.int 0))) maN)))) (mC (.int 19))) maN)) (mC (.int 2305843009213693921))) (gNm 4))
    (sRet (mLst (maC (mB bMax (maC (mC (.int 0)) (maC (mBin oSub (mVar 3) (mBin oPow (mC (.int 10)) (mC (.int 17)))) maN))) (maC (mVar 4) (maC (mC (.int 0)) maN))))))))
def f__law_urn : List IV → M IV := mDef 5 b__law_urn
def b_law_0 : MS := (sGc (sFor (iRg1 (maC (mB bMax (maC (mC (.int 1)) (maC (mB bMin (maC (mC (.int 12)) (maC (mB bLen (maC (mVar 0) maN)) maN))) maN))) maN)) (gNm 1) (sIf (mtNot (mtB (mCall f__law_right (maC (mCall f__law_urn (maC (mVar 0) (maC (mVar 1) maN))) maN)))) (sRet (mC (.bl false))) sNx)))
def b_law_1 : MS := (sAsg (mLst (maC (mC (.str "a")) (maC (mC (.str "z")) (maC (mC (.str "abcdefgh")) (maC (mC (.str "set")) (maC (mC (.str "leave")) (maC (mC (.str "mmmmmmmm")) maN))))))) (gNm 2))
def b_law_2 : MS := (sAsg (mLst (maC (mC (.str "")) (maC (mC (.str "A")) (maC (mC (.str "abcdefghi")) (maC (mC (.str "a b")) (maC (mC (.str "a1")) (maC (mC (.str "-")) (maC (mC .non) (maC (mC (.int 0)) (maC (mTup (maC (mC (.str "a")) maN)) (maC (mLst (maC (mC (.str "a")) maN)) (maC (mC (.bl true)) (maC mDct (maC (mC (.str "a\n")) maN)))))))))))))) (gNm 3))
def b_law_3 : MS := (sIf (mtOr (mtB (mBin oNe (mLc (iLs (mVar 2)) (gNm 6) (mtNot (mtB (mCall f_is_name (maC (mVar 6) maN)))) (mVar 6) [6]) (mLst maN))) (mtB (mBin oNe (mLc (iLs (mVar 3)) (gNm 6) (mtB (mCall f_is_name (maC (mVar 6) maN))) (mVar 6) [6]) (mLst maN)))) (sRet (mC (.bl false))) sNx)
def b_law_4 : MS := (sAsg (mBin oAdd (mVar 3) (mLst (maC (mTup maN) (maC (mTup (maC (mC (.int 0)) maN)) (maC (mTup (maC (mC (.int 5)) (maC (mTup maN) maN))) (maC (mTup (maC (mC (.int 0)) (maC (mC .non) maN))) (maC (mTup (maC (mC (.int 0)) (maC (mTup (maC (mTup (maC (mC (.str "a")) (maC (mC (.int 0)) (maC (mC (.int 0)) maN)))) maN)) maN))) (maC (mTup (maC (mTup maN) (maC (mC (.int 0)) maN))) (maC (mTup (maC (mC (.bl true)) (maC (mTup maN) maN))) (maC (mTup (maC (mC (.int 0)) (maC (mTup (maC (mC (.str "a")) (maC (mC (.int 0)) maN))) maN))) maN)))))))))) (gNm 3))
def b_law_5 : MS := (sIf (mtB (mBin oNe (mLc (iLs (mVar 3)) (gNm 5) (mtOr (mtB (mCall f_is_situation (maC (mVar 5) maN))) (mtOr (mtB (mCall f_is_step (maC (mVar 5) maN))) (mtNot (mtB (mCall f__law_is_refused (maC (mVar 5) maN)))))) (mVar 5) [5]) (mLst maN))) (sRet (mC (.bl false))) sNx)
def b_law_6 : MS := (sAsg (mLst (maC (mTup (maC (mC (.str "set")) (maC (mC (.str "a")) (maC (mC (.int 11)) (maC (mC (.int 4)) maN))))) (maC (mTup (maC (mC (.str "call")) (maC (mC (.str "a")) (maC (mC (.int 0)) (maC (mC (.int 0)) maN))))) (maC (mTup (maC (mC (.str "leave")) (maC (mC (.str "a")) (maC (mC (.int 5)) (maC (mC (.str "b")) (maC (mC (.int 11)) (maC (mC (.int 4)) maN))))))) (maC (mTup (maC (mC (.str "end")) (maC (mC (.int 5)) (maC (mC (.int 4)) maN)))) maN))))) (gNm 4))
def b_law_7 : MS := (sAsg (mLst (maC (mTup (maC (mC (.str "set")) (maC (mC (.str "a")) (maC (mC (.int 12)) (maC (mC (.int 0)) maN))))) (maC (mTup (maC (mC (.str "call")) (maC (mC (.str "a")) (maC (mC (.int 0)) (maC (mC (.int 5)) maN))))) (maC (mTup (maC (mC (.str "leave")) (maC (mC (.str "a")) (maC (mC (.int 6)) (maC (mC (.str "b")) (maC (mC (.int 0)) (maC (mC (.int 0)) maN))))))) (maC (mTup (maC (mC (.str "leave")) (maC (mC (.str "a")) (maC (mC (.int 0)) (maC (mC (.str "b")) (maC (mC (.int 12)) (maC (mC (.int 0)) maN))))))) maN))))) (gNm 3))
def b_law_8 : MS := (sAsg (mBin oAdd (mVar 3) (mLst (maC (mTup (maC (mC (.str "end")) (maC (mC (.int 6)) (maC (mC (.int 0)) maN)))) (maC (mTup (maC (mC (.str "end")) (maC (mC (.str "a")) (maC (mC (.int 0)) (maC (mC (.int 0)) maN))))) (maC (mTup (maC (mC (.str "go")) (maC (mC (.str "a")) (maC (mC (.int 0)) (maC (mC (.int 0)) maN))))) (maC (mTup (maC (mC (.str "set")) (maC (mC (.str "a")) (maC (mC (.int 0)) maN)))) (maC (mTup (maC (mC (.str "leave")) (maC (mC (.str "a")) (maC (mC (.int 0)) (maC (mC (.str "b")) (maC (mC (.int 0)) maN)))))) maN))))))) (gNm 3))
def b_law_9 : MS := (sIf (mtOr (mtB (mBin oNe (mLc (iLs (mVar 4)) (gNm 7) (mtNot (mtB (mCall f_is_step (maC (mVar 7) maN)))) (mVar 7) [7]) (mLst maN))) (mtB (mBin oNe (mLc (iLs (mVar 3)) (gNm 7) (mtB (mCall f_is_step (maC (mVar 7) maN))) (mVar 7) [7]) (mLst maN)))) (sRet (mC (.bl false))) sNx)
def b_law_10 : MS := (sRet (mAnd (mBin oEq (mCall f_spot_of (maC (mTup (maC (mC (.int 4)) (maC (mTup (maC (mTup (maC (mC (.str "a")) (maC (mC (.int 11)) maN))) (maC (mTup (maC (mC (.str "b")) (maC (mC (.int 5)) maN))) maN))) maN))) maN)) (mTup (maC (mC (.str "b")) (maC (mC (.int 5)) (maC (mC (.int 4)) maN))))) (mBin oEq (mCall f_spot_of (maC (mTup (maC (mC (.int 0)) (maC (mTup maN) maN))) maN)) (mTup (maC (mC (.int 0)) maN)))))
def b_law : MS := (sSeq b_law_0 (sSeq b_law_1 (sSeq b_law_2 (sSeq b_law_3 (sSeq b_law_4 (sSeq b_law_5 (sSeq b_law_6 (sSeq b_law_7 (sSeq b_law_8 (sSeq b_law_9 b_law_10))))))))))
def f_law : List IV → M IV := mDef 8 b_law
end K01

set_option Elab.async false
set_option linter.all false
set_option maxRecDepth 100000
set_option maxHeartbeats 4000000
namespace K01
open Sm L2 PySem PySem.Spec
/-! ### what the drawn parts are: the urn -/
def UrnO (o : IO) : Prop := ∃ g s c : Int, o = .lst [.int g, .int s, .int c]
def Urn (st : Hs) (a : Nat) : Prop := ∃ o, st[a]? = some o ∧ UrnO o
/-- later: only the urn has changed, and new objects came -/
structure Gr (a : Nat) (st st' : Hs) : Prop where
  le : st.length ≤ st'.length
  urn : Urn st' a
  fr : ∀ i, i ≠ a → i < st.length → st'[i]? = st[i]?
theorem Urn.lt {st : Hs} {a : Nat} (h : Urn st a) : a < st.length := by
  obtain ⟨o, h, _⟩ := h
  exact (List.getElem?_eq_some_iff.mp h).1
theorem Gr.refl {st : Hs} {a : Nat} (h : Urn st a) : Gr a st st := ⟨Nat.le_refl _, h, fun _ _ _ => rfl⟩
theorem Gr.trans {st st1 st2 : Hs} {a : Nat} (h : Gr a st st1) (g : Gr a st1 st2) : Gr a st st2 := ⟨Nat.le_trans h.le g.le, g.urn, fun i n l => (g.fr i n (Nat.lt_of_lt_of_le l h.le)).trans (h.fr i n l)⟩
theorem Gr.set {st : Hs} {a : Nat} {o : IO} (h : Urn st a) (u : UrnO o) : Gr a st (st.set a o) := ⟨by simp, ⟨o, by simp [h.lt], u⟩, fun i n _ => by rw [List.getElem?_set_ne (Ne.symm n)]⟩
theorem Gr.app {st : Hs} {a : Nat} {l : Hs} (h : Urn st a) : Gr a st (st ++ l) := ⟨by simp, by
  obtain ⟨o, h1, h2⟩ := h
  exact ⟨o, by rw [List.getElem?_append_left (List.getElem?_eq_some_iff.mp h1).1]; exact h1, h2⟩, fun i _ l => by rw [List.getElem?_append_left l]⟩
theorem take_ok {st : Hs} {a : Nat} (h : Urn st a) (t : Int) (h0 : 0 < t) (h1 : t < 1073741824) : ∃ n st', f__law_take [.ref a, .int t] st = .ok (.int n) st' ∧ 0 ≤ n ∧ n < t ∧ Gr a st st' ∧ st'.length = st.length := by
  have e3 : ∀ o : IO, (st.set a o)[a]? = some o := fun o => List.getElem?_set_self h.lt
  obtain ⟨o, h2, g, s, c, rfl⟩ := id h
  by_cases hg : 0 < g
  · refine ⟨g % t, st.set a (.lst [.int (g / t), .int s, .int c]), ?_, (emod_bd g t h0).1, (emod_bd g t h0).2, Gr.set h ⟨_, _, _, rfl⟩, by simp⟩
    simp [f__law_take, b__law_take, mDef, endR, sRet, sRetN, sE, sSeq, sNx, sIf, sAsg, sExp, asNx, sPar2, sPar3, mVar, mC, mBin, bnd, lf, mB, maC, maN, Sm.ret, Sm.stuck, gNm, gTp, gsC, gsN, gSb, mtB, asB, mtAnd, mtOr, mtNot, mAnd, mOr, mNot, mIf, mCall, mTup, mLst, mDct, mNeg, mIsi, mChain, mSl, mNo, mPt, newL, bg1, bg2, bg3, bg4, bg5, bg6, bg7, bg8, bg9, bg10, bg11, bg12, bg13, bg14, bg15, bg16, bg17, bg18, bg19, bg20, oIx, seqOf, lstOf, ioL, h2, at0, at1, at2, oGt, hg, bInt, oMod, oFdv, h0, h1, setI, ixN]
  · obtain ⟨x, hx⟩ : ∃ x, x = (s + 1299709 * (c + 1)) % 2305843009213693951 := ⟨_, rfl⟩
    obtain ⟨y, hy⟩ : ∃ y, y = (x * x + 7919 * (c + 1)) % 1000000000039 := ⟨_, rfl⟩
    have b1 : 0 ≤ x ∧ x < 2305843009213693951 := by rw [hx]; exact emod_bd _ _ (by decide)
    have b2 : 0 ≤ y ∧ y < 1000000000039 := by rw [hy]; exact emod_bd _ _ (by decide)
    have x1 : -18446744073709551616 < x := by omega
    have x2 : x < 18446744073709551616 := by omega
    have y1 : -18446744073709551616 < y := by omega
    have y2 : y < 18446744073709551616 := by omega
    refine ⟨(y * y + x) % 998244353 / 61 % t, st.set a (.lst [.int g, .int s, .int (c + 1)]), ?_, (emod_bd _ t h0).1, (emod_bd _ t h0).2, Gr.set h ⟨_, _, _, rfl⟩, by simp⟩
    simp [f__law_take, b__law_take, mDef, endR, sRet, sRetN, sE, sSeq, sNx, sIf, sAsg, sExp, asNx, sPar2, sPar3, mVar, mC, mBin, bnd, lf, mB, maC, maN, Sm.ret, Sm.stuck, gNm, gTp, gsC, gsN, gSb, mtB, asB, mtAnd, mtOr, mtNot, mAnd, mOr, mNot, mIf, mCall, mTup, mLst, mDct, mNeg, mIsi, mChain, mSl, mNo, mPt, newL, bg1, bg2, bg3, bg4, bg5, bg6, bg7, bg8, bg9, bg10, bg11, bg12, bg13, bg14, bg15, bg16, bg17, bg18, bg19, bg20, oIx, seqOf, lstOf, ioL, h2, at0, at1, at2, oGt, hg, bInt, oMod, oFdv, h0, h1, setI, ixN, oAdd, oMul, e3, ← hx, ← hy, x1, x2, y1, y2]
/-! ### the judges, by values -/
def LET : Str := "abcdefghijklmnopqrstuvwxyz"
def isBelow (v : IV) (l : Int) : Bool := match v with
  | .int i => decide (-10000000000000000000000000000000000000000 < i) && decide (i < 10000000000000000000000000000000000000000) && (decide (0 ≤ i) && decide (i < l))
  | _ => false
def isName (v : IV) : Bool := match v with
  | .str z => decide (0 < z.length) && decide (z.length ≤ 8) && z.cps.toList.all fun c => decide (c ∈ LET.cps.toList)
  | _ => false
def isPair (v : IV) (k : Int) : Bool := match v with
  | .tup [n, i] => isName n && isBelow i k
  | _ => false
def isInt (v : IV) : Bool := match v with
  | .int i => decide (-10000000000000000000000000000000000000000 < i) && decide (i < 10000000000000000000000000000000000000000)
  | _ => false
theorem int_ok {st : Hs} {v : IV} (h : knI st v = true) : f_is_integer [v] st = .ok (.bl (isInt v)) st := by
  cases v with
  | int i =>
    by_cases q : -10000000000000000000000000000000000000000 < i <;> simp [f_is_integer, b_is_integer, mDef, endR, sRet, sRetN, sE, sSeq, sNx, sIf, sAsg, sExp, asNx, sPar2, sPar3, mVar, mC, mBin, bnd, lf, mB, maC, maN, Sm.ret, Sm.stuck, gNm, gTp, gsC, gsN, gSb, mtB, asB, mtAnd, mtOr, mtNot, mAnd, mOr, mNot, mIf, mCall, mTup, mLst, mDct, mNeg, mIsi, mChain, mSl, mNo, mPt, newL, bg1, bg2, bg3, bg4, bg5, bg6, bg7, bg8, bg9, bg10, bg11, bg12, bg13, bg14, bg15, bg16, bg17, bg18, bg19, bg20, tyName, subTy, oLt, isInt, q]
  | ref a =>
    obtain ⟨o, e⟩ := Option.isSome_iff_exists.mp (show (st[a]?).isSome = true from h)
    cases o <;> simp [f_is_integer, b_is_integer, mDef, endR, sRet, sRetN, sE, sSeq, sNx, sIf, sAsg, sExp, asNx, sPar2, sPar3, mVar, mC, mBin, bnd, lf, mB, maC, maN, Sm.ret, Sm.stuck, gNm, gTp, gsC, gsN, gSb, mtB, asB, mtAnd, mtOr, mtNot, mAnd, mOr, mNot, mIf, mCall, mTup, mLst, mDct, mNeg, mIsi, mChain, mSl, mNo, mPt, newL, bg1, bg2, bg3, bg4, bg5, bg6, bg7, bg8, bg9, bg10, bg11, bg12, bg13, bg14, bg15, bg16, bg17, bg18, bg19, bg20, tyName, subTy, e, isInt]
  | _ => simp [f_is_integer, b_is_integer, mDef, endR, sRet, sRetN, sE, sSeq, sNx, sIf, sAsg, sExp, asNx, sPar2, sPar3, mVar, mC, mBin, bnd, lf, mB, maC, maN, Sm.ret, Sm.stuck, gNm, gTp, gsC, gsN, gSb, mtB, asB, mtAnd, mtOr, mtNot, mAnd, mOr, mNot, mIf, mCall, mTup, mLst, mDct, mNeg, mIsi, mChain, mSl, mNo, mPt, newL, bg1, bg2, bg3, bg4, bg5, bg6, bg7, bg8, bg9, bg10, bg11, bg12, bg13, bg14, bg15, bg16, bg17, bg18, bg19, bg20, tyName, subTy, isInt]
theorem run_of {f : List IV → M IV} {xs : List IV} {st : Hs} {b : Bool} (h : ∀ st, knIs st xs = true → ∃ l, f xs st = .ok (.bl b) (st ++ l)) (k : knIs st xs = true) : ∃ l, runC f xs st = .ok (.bl b) (st ++ l) := by
  by_cases c : clIs xs = true
  · obtain ⟨l, e⟩ := h [] (kns_cl xs c k)
    exact ⟨[], by rw [List.append_nil]; exact runC_cl c rfl ⟨_, e⟩⟩
  · unfold runC
    rw [if_neg c]
    exact h st k
theorem run_same {f : List IV → M IV} {xs : List IV} {st : Hs} {b : Bool} (h : ∀ st, knIs st xs = true → f xs st = .ok (.bl b) st) (k : knIs st xs = true) : runC f xs st = .ok (.bl b) st := by
  by_cases c : clIs xs = true
  · exact runC_cl c rfl ⟨_, h [] (kns_cl xs c k)⟩
  · unfold runC
    rw [if_neg c]
    exact h st k
theorem below_ok {st : Hs} {v : IV} {l : Int} (h : knI st v = true) : f_is_below [v, .int l] st = .ok (.bl (isBelow v l)) st := by
  have e : runC f_is_integer [v] st = .ok (.bl (isInt v)) st := run_same (fun st k => int_ok (kns_mem k (by simp))) (by simp [knIs, h])
  cases v with
  | int i =>
    by_cases q : isInt (.int i) = true
    · by_cases q0 : 0 ≤ i <;> simp [f_is_below, b_is_below, mDef, endR, sRet, sRetN, sE, sSeq, sNx, sIf, sAsg, sExp, asNx, sPar2, sPar3, mVar, mC, mBin, bnd, lf, mB, maC, maN, Sm.ret, Sm.stuck, gNm, gTp, gsC, gsN, gSb, mtB, asB, mtAnd, mtOr, mtNot, mAnd, mOr, mNot, mIf, mCall, mTup, mLst, mDct, mNeg, mIsi, mChain, mSl, mNo, mPt, newL, bg1, bg2, bg3, bg4, bg5, bg6, bg7, bg8, bg9, bg10, bg11, bg12, bg13, bg14, bg15, bg16, bg17, bg18, bg19, bg20, e, q, oLe, oLt, isBelow, q0] <;> simp [isInt] at q <;> simp [q]
    · have q2 : isBelow (.int i) l = false := by
        simp only [isInt, Bool.not_eq_true] at q
        simp only [isBelow, q, Bool.false_and]
      simp [f_is_below, b_is_below, mDef, endR, sRet, sRetN, sE, sSeq, sNx, sIf, sAsg, sExp, asNx, sPar2, sPar3, mVar, mC, mBin, bnd, lf, mB, maC, maN, Sm.ret, Sm.stuck, gNm, gTp, gsC, gsN, gSb, mtB, asB, mtAnd, mtOr, mtNot, mAnd, mOr, mNot, mIf, mCall, mTup, mLst, mDct, mNeg, mIsi, mChain, mSl, mNo, mPt, newL, bg1, bg2, bg3, bg4, bg5, bg6, bg7, bg8, bg9, bg10, bg11, bg12, bg13, bg14, bg15, bg16, bg17, bg18, bg19, bg20, e, q, q2]
  | _ => simp [f_is_below, b_is_below, mDef, endR, sRet, sRetN, sE, sSeq, sNx, sIf, sAsg, sExp, asNx, sPar2, sPar3, mVar, mC, mBin, bnd, lf, mB, maC, maN, Sm.ret, Sm.stuck, gNm, gTp, gsC, gsN, gSb, mtB, asB, mtAnd, mtOr, mtNot, mAnd, mOr, mNot, mIf, mCall, mTup, mLst, mDct, mNeg, mIsi, mChain, mSl, mNo, mPt, newL, bg1, bg2, bg3, bg4, bg5, bg6, bg7, bg8, bg9, bg10, bg11, bg12, bg13, bg14, bg15, bg16, bg17, bg18, bg19, bg20, e, isInt, isBelow]
theorem below_run {st : Hs} {v : IV} {l : Int} (h : knI st v = true) : runC f_is_below [v, .int l] st = .ok (.bl (isBelow v l)) st :=
  run_same (fun st k => below_ok (kns_mem k (by simp))) (by simp [knIs, h, knI])
theorem name_ok {st : Hs} {v : IV} (h : knI st v = true) : ∃ l, f_is_name [v] st = .ok (.bl (isName v)) (st ++ l) := by
  cases v with
  | str z =>
    by_cases q : 0 < z.length ∧ z.length ≤ 8
    · have e : ∃ l, goLc (.txt z) (gNm 1) mtYes (mBin oIn (mVar 1) (mC (.str "abcdefghijklmnopqrstuvwxyz"))) [some (.str z), none] z.cps.size 0 [] st = .ok ([] ++ (List.range' 0 z.cps.size).map fun i => IV.bl (decide (z.cps.getD i 0 ∈ LET.cps.toList))) (st ++ l) := by
        refine goLc_map (F := fun i => IV.bl (decide (z.cps.getD i 0 ∈ LET.cps.toList))) (fun _ => True) (fun _ _ _ => trivial) (fun _ _ => rfl) (fun i st hi _ => ?_) z.cps.size 0 [] st (Nat.zero_add _) (Nat.le_trans q.2 (by decide)) rfl trivial
        have hi : i < z.cps.size := hi
        refine ⟨.str ⟨#[z.cps[i]]⟩, [some (.str z), some (.str ⟨#[z.cps[i]]⟩)], [], by simp [Src.item, hi], rfl, ?_⟩
        simp [mDef, endR, sRet, sRetN, sE, sSeq, sNx, sIf, sAsg, sExp, asNx, sPar2, sPar3, mVar, mC, mBin, bnd, lf, mB, maC, maN, Sm.ret, Sm.stuck, gNm, gTp, gsC, gsN, gSb, mtB, asB, mtAnd, mtOr, mtNot, mAnd, mOr, mNot, mIf, mCall, mTup, mLst, mDct, mNeg, mIsi, mChain, mSl, mNo, mPt, newL, bg1, bg2, bg3, bg4, bg5, bg6, bg7, bg8, bg9, bg10, bg11, bg12, bg13, bg14, bg15, bg16, bg17, bg18, bg19, bg20, oIn, inI, hi, Array.getD, LET]
      obtain ⟨l, e⟩ := e
      have ez : (List.range' 0 z.cps.size).map (fun i => IV.bl (decide (z.cps.getD i 0 ∈ LET.cps.toList))) = (z.cps.toList.map fun c => decide (c ∈ LET.cps.toList)).map IV.bl := by
        apply List.ext_getElem
        · simp
        · intro i h1 h2
          simp at h1
          simp [h1, Array.getD]
      rw [ez, List.nil_append] at e
      have hb : z.length ≤ big := Nat.le_trans q.2 (by decide)
      have q2 : (z.length : Int) ≤ 8 := by omega
      have q3 : (0 : Int) < z.length := by omega
      have en : isName (.str z) = (z.cps.toList.map fun c => decide (c ∈ LET.cps.toList)).all id := by
        unfold isName
        simp [q.1, q.2]
      rw [en]
      generalize (z.cps.toList.map fun c => decide (c ∈ LET.cps.toList)) = bs at e ⊢
      refine ⟨l ++ [.lst (bs.map IV.bl)], ?_⟩
      simp [f_is_name, b_is_name, mDef, endR, sRet, sRetN, sE, sSeq, sNx, sIf, sAsg, sExp, asNx, sPar2, sPar3, mVar, mC, mBin, bnd, lf, mB, maC, maN, Sm.ret, Sm.stuck, gNm, gTp, gsC, gsN, gSb, mtB, asB, mtAnd, mtOr, mtNot, mAnd, mOr, mNot, mIf, mCall, mTup, mLst, mDct, mNeg, mIsi, mChain, mSl, mNo, mPt, newL, bg1, bg2, bg3, bg4, bg5, bg6, bg7, bg8, bg9, bg10, bg11, bg12, bg13, bg14, bg15, bg16, bg17, bg18, bg19, bg20, tyName, subTy, bLen, hb, oLt, oLe, q2, q3, q.1, q.2, mLc, iTx, Src.n, wipeI, e, bAll, lstOf, ioL, bls_map, - List.map_map, - List.all_map]
    · have en : isName (.str z) = false := by
        unfold isName
        by_cases q1 : 0 < z.length
        · have q2 : ¬ z.length ≤ 8 := fun k => q ⟨q1, k⟩
          simp [q2]
        · simp [q1]
      rw [en]
      refine ⟨[], ?_⟩
      have hb : z.length ≤ big := of_decide_eq_true h
      · by_cases q1 : 0 < z.length
        · have q2 : ¬ (z.length : Int) ≤ 8 := fun k => q ⟨q1, by omega⟩
          have q3 : ¬ z.length ≤ 8 := fun k => q ⟨q1, k⟩
          simp [f_is_name, b_is_name, mDef, endR, sRet, sRetN, sE, sSeq, sNx, sIf, sAsg, sExp, asNx, sPar2, sPar3, mVar, mC, mBin, bnd, lf, mB, maC, maN, Sm.ret, Sm.stuck, gNm, gTp, gsC, gsN, gSb, mtB, asB, mtAnd, mtOr, mtNot, mAnd, mOr, mNot, mIf, mCall, mTup, mLst, mDct, mNeg, mIsi, mChain, mSl, mNo, mPt, newL, bg1, bg2, bg3, bg4, bg5, bg6, bg7, bg8, bg9, bg10, bg11, bg12, bg13, bg14, bg15, bg16, bg17, bg18, bg19, bg20, tyName, subTy, bLen, hb, oLt, oLe, q1, q2, q3]
        · simp [f_is_name, b_is_name, mDef, endR, sRet, sRetN, sE, sSeq, sNx, sIf, sAsg, sExp, asNx, sPar2, sPar3, mVar, mC, mBin, bnd, lf, mB, maC, maN, Sm.ret, Sm.stuck, gNm, gTp, gsC, gsN, gSb, mtB, asB, mtAnd, mtOr, mtNot, mAnd, mOr, mNot, mIf, mCall, mTup, mLst, mDct, mNeg, mIsi, mChain, mSl, mNo, mPt, newL, bg1, bg2, bg3, bg4, bg5, bg6, bg7, bg8, bg9, bg10, bg11, bg12, bg13, bg14, bg15, bg16, bg17, bg18, bg19, bg20, tyName, subTy, bLen, hb, oLt, oLe, q1]
  | ref a =>
    obtain ⟨o, e⟩ := Option.isSome_iff_exists.mp (show (st[a]?).isSome = true from h)
    refine ⟨[], ?_⟩
    cases o <;> simp [f_is_name, b_is_name, mDef, endR, sRet, sRetN, sE, sSeq, sNx, sIf, sAsg, sExp, asNx, sPar2, sPar3, mVar, mC, mBin, bnd, lf, mB, maC, maN, Sm.ret, Sm.stuck, gNm, gTp, gsC, gsN, gSb, mtB, asB, mtAnd, mtOr, mtNot, mAnd, mOr, mNot, mIf, mCall, mTup, mLst, mDct, mNeg, mIsi, mChain, mSl, mNo, mPt, newL, bg1, bg2, bg3, bg4, bg5, bg6, bg7, bg8, bg9, bg10, bg11, bg12, bg13, bg14, bg15, bg16, bg17, bg18, bg19, bg20, tyName, subTy, e, isName]
  | _ => exact ⟨[], by simp [f_is_name, b_is_name, mDef, endR, sRet, sRetN, sE, sSeq, sNx, sIf, sAsg, sExp, asNx, sPar2, sPar3, mVar, mC, mBin, bnd, lf, mB, maC, maN, Sm.ret, Sm.stuck, gNm, gTp, gsC, gsN, gSb, mtB, asB, mtAnd, mtOr, mtNot, mAnd, mOr, mNot, mIf, mCall, mTup, mLst, mDct, mNeg, mIsi, mChain, mSl, mNo, mPt, newL, bg1, bg2, bg3, bg4, bg5, bg6, bg7, bg8, bg9, bg10, bg11, bg12, bg13, bg14, bg15, bg16, bg17, bg18, bg19, bg20, tyName, subTy, isName]⟩
theorem name_run {st : Hs} {v : IV} (h : knI st v = true) : ∃ l, runC f_is_name [v] st = .ok (.bl (isName v)) (st ++ l) :=
  run_of (fun st k => name_ok (kns_mem k (by simp))) (by simp [knIs, h])
theorem pair_ok {st : Hs} {v : IV} {k : Int} (h : knI st v = true) : ∃ l, f_is_pair [v, .int k] st = .ok (.bl (isPair v k)) (st ++ l) := by
  cases v with
  | tup xs =>
    match xs, h with
    | [], h => exact ⟨[], by simp [f_is_pair, b_is_pair, mDef, endR, sRet, sRetN, sE, sSeq, sNx, sIf, sAsg, sExp, asNx, sPar2, sPar3, mVar, mC, mBin, bnd, lf, mB, maC, maN, Sm.ret, Sm.stuck, gNm, gTp, gsC, gsN, gSb, mtB, asB, mtAnd, mtOr, mtNot, mAnd, mOr, mNot, mIf, mCall, mTup, mLst, mDct, mNeg, mIsi, mChain, mSl, mNo, mPt, newL, bg1, bg2, bg3, bg4, bg5, bg6, bg7, bg8, bg9, bg10, bg11, bg12, bg13, bg14, bg15, bg16, bg17, bg18, bg19, bg20, tyName, subTy, bLen, seqOf, oEq, eqI_int, isPair]⟩
    | [_], h => exact ⟨[], by simp [f_is_pair, b_is_pair, mDef, endR, sRet, sRetN, sE, sSeq, sNx, sIf, sAsg, sExp, asNx, sPar2, sPar3, mVar, mC, mBin, bnd, lf, mB, maC, maN, Sm.ret, Sm.stuck, gNm, gTp, gsC, gsN, gSb, mtB, asB, mtAnd, mtOr, mtNot, mAnd, mOr, mNot, mIf, mCall, mTup, mLst, mDct, mNeg, mIsi, mChain, mSl, mNo, mPt, newL, bg1, bg2, bg3, bg4, bg5, bg6, bg7, bg8, bg9, bg10, bg11, bg12, bg13, bg14, bg15, bg16, bg17, bg18, bg19, bg20, tyName, subTy, bLen, seqOf, oEq, eqI_int, isPair]⟩
    | _ :: _ :: _ :: r, h =>
      have e : ((r.length : Int) + 1 + 1 + 1 == 2) = false := by simp; omega
      exact ⟨[], by simp [f_is_pair, b_is_pair, mDef, endR, sRet, sRetN, sE, sSeq, sNx, sIf, sAsg, sExp, asNx, sPar2, sPar3, mVar, mC, mBin, bnd, lf, mB, maC, maN, Sm.ret, Sm.stuck, gNm, gTp, gsC, gsN, gSb, mtB, asB, mtAnd, mtOr, mtNot, mAnd, mOr, mNot, mIf, mCall, mTup, mLst, mDct, mNeg, mIsi, mChain, mSl, mNo, mPt, newL, bg1, bg2, bg3, bg4, bg5, bg6, bg7, bg8, bg9, bg10, bg11, bg12, bg13, bg14, bg15, bg16, bg17, bg18, bg19, bg20, tyName, subTy, bLen, seqOf, oEq, eqI_int, isPair, e]⟩
    | [n, i], h =>
      have hn : knI st n = true := kns_mem h (by simp)
      have hi : knI st i = true := kns_mem h (by simp)
      obtain ⟨l, e⟩ := name_run hn
      have e2 := below_run (l := k) (kn_app (l := l) hi)
      refine ⟨l, ?_⟩
      by_cases q : isName n = true
      · simp [f_is_pair, b_is_pair, mDef, endR, sRet, sRetN, sE, sSeq, sNx, sIf, sAsg, sExp, asNx, sPar2, sPar3, mVar, mC, mBin, bnd, lf, mB, maC, maN, Sm.ret, Sm.stuck, gNm, gTp, gsC, gsN, gSb, mtB, asB, mtAnd, mtOr, mtNot, mAnd, mOr, mNot, mIf, mCall, mTup, mLst, mDct, mNeg, mIsi, mChain, mSl, mNo, mPt, newL, bg1, bg2, bg3, bg4, bg5, bg6, bg7, bg8, bg9, bg10, bg11, bg12, bg13, bg14, bg15, bg16, bg17, bg18, bg19, bg20, tyName, subTy, bLen, seqOf, oEq, oIx, at0, at1, eqI_int, isPair, e, e2, q]
      · simp [f_is_pair, b_is_pair, mDef, endR, sRet, sRetN, sE, sSeq, sNx, sIf, sAsg, sExp, asNx, sPar2, sPar3, mVar, mC, mBin, bnd, lf, mB, maC, maN, Sm.ret, Sm.stuck, gNm, gTp, gsC, gsN, gSb, mtB, asB, mtAnd, mtOr, mtNot, mAnd, mOr, mNot, mIf, mCall, mTup, mLst, mDct, mNeg, mIsi, mChain, mSl, mNo, mPt, newL, bg1, bg2, bg3, bg4, bg5, bg6, bg7, bg8, bg9, bg10, bg11, bg12, bg13, bg14, bg15, bg16, bg17, bg18, bg19, bg20, tyName, subTy, bLen, seqOf, oEq, oIx, at0, at1, eqI_int, isPair, e, q]
  | ref a =>
    obtain ⟨o, e⟩ := Option.isSome_iff_exists.mp (show (st[a]?).isSome = true from h)
    refine ⟨[], ?_⟩
    cases o <;> simp [f_is_pair, b_is_pair, mDef, endR, sRet, sRetN, sE, sSeq, sNx, sIf, sAsg, sExp, asNx, sPar2, sPar3, mVar, mC, mBin, bnd, lf, mB, maC, maN, Sm.ret, Sm.stuck, gNm, gTp, gsC, gsN, gSb, mtB, asB, mtAnd, mtOr, mtNot, mAnd, mOr, mNot, mIf, mCall, mTup, mLst, mDct, mNeg, mIsi, mChain, mSl, mNo, mPt, newL, bg1, bg2, bg3, bg4, bg5, bg6, bg7, bg8, bg9, bg10, bg11, bg12, bg13, bg14, bg15, bg16, bg17, bg18, bg19, bg20, tyName, subTy, e, isPair]
  | _ => exact ⟨[], by simp [f_is_pair, b_is_pair, mDef, endR, sRet, sRetN, sE, sSeq, sNx, sIf, sAsg, sExp, asNx, sPar2, sPar3, mVar, mC, mBin, bnd, lf, mB, maC, maN, Sm.ret, Sm.stuck, gNm, gTp, gsC, gsN, gSb, mtB, asB, mtAnd, mtOr, mtNot, mAnd, mOr, mNot, mIf, mCall, mTup, mLst, mDct, mNeg, mIsi, mChain, mSl, mNo, mPt, newL, bg1, bg2, bg3, bg4, bg5, bg6, bg7, bg8, bg9, bg10, bg11, bg12, bg13, bg14, bg15, bg16, bg17, bg18, bg19, bg20, tyName, subTy, isPair]⟩
theorem pair_run {st : Hs} {v : IV} {k : Int} (h : knI st v = true) : ∃ l, runC f_is_pair [v, .int k] st = .ok (.bl (isPair v k)) (st ++ l) :=
  run_of (fun st k => pair_ok (kns_mem k (by simp))) (by simp [knIs, h, knI])
def isSit (v : IV) : Bool := match v with
  | .tup [n, .tup fs] => isBelow n 5 && (fs.dropLast.all (fun f => isPair f 12) && (match fs.getLast? with
    | none => true
    | some f => isPair f 6))
  | _ => false
theorem sit_ok {st : Hs} {v : IV} (hz : ∀ n fs, v = .tup [n, .tup fs] → fs.length ≤ big) (h : knI st v = true) : ∃ l, f_is_situation [v] st = .ok (.bl (isSit v)) (st ++ l) := by
  cases v with
  | tup xs =>
    match xs, h with
    | [], h => exact ⟨[], by simp [f_is_situation, b_is_situation, mDef, endR, sRet, sRetN, sE, sSeq, sNx, sIf, sAsg, sExp, asNx, sPar2, sPar3, mVar, mC, mBin, bnd, lf, mB, maC, maN, Sm.ret, Sm.stuck, gNm, gTp, gsC, gsN, gSb, mtB, asB, mtAnd, mtOr, mtNot, mAnd, mOr, mNot, mIf, mCall, mTup, mLst, mDct, mNeg, mIsi, mChain, mSl, mNo, mPt, newL, bg1, bg2, bg3, bg4, bg5, bg6, bg7, bg8, bg9, bg10, bg11, bg12, bg13, bg14, bg15, bg16, bg17, bg18, bg19, bg20, tyName, subTy, bLen, seqOf, oNe, eqI_int, isSit]⟩
    | [_], h => exact ⟨[], by simp [f_is_situation, b_is_situation, mDef, endR, sRet, sRetN, sE, sSeq, sNx, sIf, sAsg, sExp, asNx, sPar2, sPar3, mVar, mC, mBin, bnd, lf, mB, maC, maN, Sm.ret, Sm.stuck, gNm, gTp, gsC, gsN, gSb, mtB, asB, mtAnd, mtOr, mtNot, mAnd, mOr, mNot, mIf, mCall, mTup, mLst, mDct, mNeg, mIsi, mChain, mSl, mNo, mPt, newL, bg1, bg2, bg3, bg4, bg5, bg6, bg7, bg8, bg9, bg10, bg11, bg12, bg13, bg14, bg15, bg16, bg17, bg18, bg19, bg20, tyName, subTy, bLen, seqOf, oNe, eqI_int, isSit]⟩
    | _ :: _ :: _ :: r, h =>
      have e : ((r.length : Int) + 1 + 1 + 1 == 2) = false := by simp; omega
      exact ⟨[], by simp [f_is_situation, b_is_situation, mDef, endR, sRet, sRetN, sE, sSeq, sNx, sIf, sAsg, sExp, asNx, sPar2, sPar3, mVar, mC, mBin, bnd, lf, mB, maC, maN, Sm.ret, Sm.stuck, gNm, gTp, gsC, gsN, gSb, mtB, asB, mtAnd, mtOr, mtNot, mAnd, mOr, mNot, mIf, mCall, mTup, mLst, mDct, mNeg, mIsi, mChain, mSl, mNo, mPt, newL, bg1, bg2, bg3, bg4, bg5, bg6, bg7, bg8, bg9, bg10, bg11, bg12, bg13, bg14, bg15, bg16, bg17, bg18, bg19, bg20, tyName, subTy, bLen, seqOf, oNe, eqI_int, isSit, e]⟩
    | [n, w], h =>
      have hn : knI st n = true := kns_mem h (by simp)
      have hw : knI st w = true := kns_mem h (by simp)
      have e1 := below_run (l := 5) hn
      by_cases q : isBelow n 5 = true
      · cases w with
        | tup fs =>
          have hd : ∀ f ∈ fs.dropLast, knI st f = true := fun f hf => kns_mem hw (List.dropLast_subset fs hf)
          have hb : fs.dropLast.length ≤ big := by
            have := hz n fs rfl
            simp
            omega
          obtain ⟨l, e2⟩ := goLc_seq (x := .tup fs.dropLast) (ys := fs.dropLast) (j := 2) (m := mCall f_is_pair (maC (mVar 2) (maC (mC (.int 12)) maN))) (env := [some (.tup [n, .tup fs]), some (.tup fs), none]) (F := fun f => .bl (isPair f 12)) (fun st => ∀ f ∈ fs.dropLast, knI st f = true) (fun st l h f hf => kn_app (h f hf)) (fun st _ => rfl) (fun f hf st hk => by
            obtain ⟨l, e⟩ := pair_run (k := 12) (hk f hf)
            exact ⟨l, by simp [mDef, endR, sRet, sRetN, sE, sSeq, sNx, sIf, sAsg, sExp, asNx, sPar2, sPar3, mVar, mC, mBin, bnd, lf, mB, maC, maN, Sm.ret, Sm.stuck, gNm, gTp, gsC, gsN, gSb, mtB, asB, mtAnd, mtOr, mtNot, mAnd, mOr, mNot, mIf, mCall, mTup, mLst, mDct, mNeg, mIsi, mChain, mSl, mNo, mPt, newL, bg1, bg2, bg3, bg4, bg5, bg6, bg7, bg8, bg9, bg10, bg11, bg12, bg13, bg14, bg15, bg16, bg17, bg18, bg19, bg20, e]⟩) hb st hd
          rw [show fs.dropLast.map (fun f => IV.bl (isPair f 12)) = (fs.dropLast.map fun f => isPair f 12).map IV.bl by rw [List.map_map]; rfl] at e2
          have es : isSit (.tup [n, .tup fs]) = ((fs.dropLast.map fun f => isPair f 12).all id && (match fs.getLast? with
            | none => true
            | some f => isPair f 6)) := by
            show (isBelow n 5 && _) = _
            rw [q, Bool.true_and, List.all_map]
            rfl
          rw [es]
          generalize (fs.dropLast.map fun f => isPair f 12) = bs at e2 ⊢
          have e3 : mLc (iTp (mSl (mVar 1) mNo (mPt (mNeg (mC (.int 1)))))) (gNm 2) mtYes (mCall f_is_pair (maC (mVar 2) (maC (mC (.int 12)) maN))) [2] [some (.tup [n, .tup fs]), some (.tup fs), none] st = .ok (.ref (st ++ l).length) ((st ++ l) ++ [.lst (bs.map IV.bl)]) := by
            simp only [mLc, iTp, mSl, mVar, mNo, mPt, mNeg, mC, bnd, Sm.ret, lf, oSl, wipeI, List.getElem?_cons_zero, List.getElem?_cons_succ, cut_m1, Src.n, List.set_cons_succ, List.set_cons_zero, e2]
          unfold f_is_situation b_is_situation
          generalize mLc (iTp (mSl (mVar 1) mNo (mPt (mNeg (mC (.int 1)))))) (gNm 2) mtYes (mCall f_is_pair (maC (mVar 2) (maC (mC (.int 12)) maN))) [2] = mm at e3 ⊢
          have e5 : (st ++ (l ++ [IO.lst (bs.map IV.bl)]))[(st ++ l).length]? = some (.lst (bs.map IV.bl)) := by
            rw [← List.append_assoc, List.getElem?_append_right (Nat.le_refl _), Nat.sub_self]
            rfl
          rw [List.append_assoc] at e3
          by_cases qb : bs.all id = true
          · cases hl : fs.getLast? with
            | none =>
              have ef : fs = [] := List.getLast?_eq_none_iff.mp hl
              subst ef
              refine ⟨l ++ [.lst (bs.map IV.bl)], ?_⟩
              simp [mDef, endR, sRet, sRetN, sE, sSeq, sNx, sIf, sAsg, sExp, asNx, sPar2, sPar3, mVar, mC, mBin, bnd, lf, mB, maC, maN, Sm.ret, Sm.stuck, gNm, gTp, gsC, gsN, gSb, mtB, asB, mtAnd, mtOr, mtNot, mAnd, mOr, mNot, mIf, mCall, mTup, mLst, mDct, mNeg, mIsi, mChain, mSl, mNo, mPt, newL, bg1, bg2, bg3, bg4, bg5, bg6, bg7, bg8, bg9, bg10, bg11, bg12, bg13, bg14, bg15, bg16, bg17, bg18, bg19, bg20, tyName, subTy, bLen, seqOf, oNe, eqI_int, e1, q, oIx, at0, at1, e3, bAll, lstOf, ioL, bls_map, oEq, eqI_tup0, e5, qb, - List.length_append, - List.all_eq_true, - List.all_map]
            | some f =>
              have hf : knI st f = true := kns_mem hw (List.mem_of_getLast? hl)
              have nf : fs ≠ [] := fun z => by rw [z] at hl; cases hl
              have nl : (fs.length == 0) = false := by simpa using nf
              obtain ⟨l2, e6⟩ := pair_run (k := 6) (kn_app (l := l ++ [.lst (bs.map IV.bl)]) hf)
              rw [List.append_assoc] at e6
              refine ⟨l ++ [.lst (bs.map IV.bl)] ++ l2, ?_⟩
              simp [mDef, endR, sRet, sRetN, sE, sSeq, sNx, sIf, sAsg, sExp, asNx, sPar2, sPar3, mVar, mC, mBin, bnd, lf, mB, maC, maN, Sm.ret, Sm.stuck, gNm, gTp, gsC, gsN, gSb, mtB, asB, mtAnd, mtOr, mtNot, mAnd, mOr, mNot, mIf, mCall, mTup, mLst, mDct, mNeg, mIsi, mChain, mSl, mNo, mPt, newL, bg1, bg2, bg3, bg4, bg5, bg6, bg7, bg8, bg9, bg10, bg11, bg12, bg13, bg14, bg15, bg16, bg17, bg18, bg19, bg20, tyName, subTy, bLen, seqOf, oNe, eqI_int, e1, q, oIx, at0, at1, at_m1, e3, bAll, lstOf, ioL, bls_map, oEq, eqI_tup0, e5, qb, nl, nf, hl, e6, - List.length_append, - List.all_eq_true, - List.all_map]
          · simp only [Bool.not_eq_true] at qb
            refine ⟨l ++ [.lst (bs.map IV.bl)], ?_⟩
            simp [mDef, endR, sRet, sRetN, sE, sSeq, sNx, sIf, sAsg, sExp, asNx, sPar2, sPar3, mVar, mC, mBin, bnd, lf, mB, maC, maN, Sm.ret, Sm.stuck, gNm, gTp, gsC, gsN, gSb, mtB, asB, mtAnd, mtOr, mtNot, mAnd, mOr, mNot, mIf, mCall, mTup, mLst, mDct, mNeg, mIsi, mChain, mSl, mNo, mPt, newL, bg1, bg2, bg3, bg4, bg5, bg6, bg7, bg8, bg9, bg10, bg11, bg12, bg13, bg14, bg15, bg16, bg17, bg18, bg19, bg20, tyName, subTy, bLen, seqOf, oNe, eqI_int, e1, q, oIx, at0, at1, e3, bAll, lstOf, ioL, bls_map, oEq, eqI_tup0, e5, qb, - List.length_append, - List.all_eq_true, - List.all_map]
        | ref a =>
          obtain ⟨o, e⟩ := Option.isSome_iff_exists.mp (show (st[a]?).isSome = true from hw)
          refine ⟨[], ?_⟩
          cases o <;> simp [f_is_situation, b_is_situation, mDef, endR, sRet, sRetN, sE, sSeq, sNx, sIf, sAsg, sExp, asNx, sPar2, sPar3, mVar, mC, mBin, bnd, lf, mB, maC, maN, Sm.ret, Sm.stuck, gNm, gTp, gsC, gsN, gSb, mtB, asB, mtAnd, mtOr, mtNot, mAnd, mOr, mNot, mIf, mCall, mTup, mLst, mDct, mNeg, mIsi, mChain, mSl, mNo, mPt, newL, bg1, bg2, bg3, bg4, bg5, bg6, bg7, bg8, bg9, bg10, bg11, bg12, bg13, bg14, bg15, bg16, bg17, bg18, bg19, bg20, tyName, subTy, bLen, seqOf, oNe, eqI_int, isSit, e1, q, oIx, at0, at1, e]
        | _ => exact ⟨[], by simp [f_is_situation, b_is_situation, mDef, endR, sRet, sRetN, sE, sSeq, sNx, sIf, sAsg, sExp, asNx, sPar2, sPar3, mVar, mC, mBin, bnd, lf, mB, maC, maN, Sm.ret, Sm.stuck, gNm, gTp, gsC, gsN, gSb, mtB, asB, mtAnd, mtOr, mtNot, mAnd, mOr, mNot, mIf, mCall, mTup, mLst, mDct, mNeg, mIsi, mChain, mSl, mNo, mPt, newL, bg1, bg2, bg3, bg4, bg5, bg6, bg7, bg8, bg9, bg10, bg11, bg12, bg13, bg14, bg15, bg16, bg17, bg18, bg19, bg20, tyName, subTy, bLen, seqOf, oNe, eqI_int, isSit, e1, q, oIx, at0, at1]⟩
      · have es : isSit (.tup [n, w]) = false := by
          simp only [Bool.not_eq_true] at q
          cases w <;> simp [isSit, q]
        rw [es]
        exact ⟨[], by simp [f_is_situation, b_is_situation, mDef, endR, sRet, sRetN, sE, sSeq, sNx, sIf, sAsg, sExp, asNx, sPar2, sPar3, mVar, mC, mBin, bnd, lf, mB, maC, maN, Sm.ret, Sm.stuck, gNm, gTp, gsC, gsN, gSb, mtB, asB, mtAnd, mtOr, mtNot, mAnd, mOr, mNot, mIf, mCall, mTup, mLst, mDct, mNeg, mIsi, mChain, mSl, mNo, mPt, newL, bg1, bg2, bg3, bg4, bg5, bg6, bg7, bg8, bg9, bg10, bg11, bg12, bg13, bg14, bg15, bg16, bg17, bg18, bg19, bg20, tyName, subTy, bLen, seqOf, oNe, eqI_int, e1, q, oIx, at0]⟩
  | ref a =>
    obtain ⟨o, e⟩ := Option.isSome_iff_exists.mp (show (st[a]?).isSome = true from h)
    refine ⟨[], ?_⟩
    cases o <;> simp [f_is_situation, b_is_situation, mDef, endR, sRet, sRetN, sE, sSeq, sNx, sIf, sAsg, sExp, asNx, sPar2, sPar3, mVar, mC, mBin, bnd, lf, mB, maC, maN, Sm.ret, Sm.stuck, gNm, gTp, gsC, gsN, gSb, mtB, asB, mtAnd, mtOr, mtNot, mAnd, mOr, mNot, mIf, mCall, mTup, mLst, mDct, mNeg, mIsi, mChain, mSl, mNo, mPt, newL, bg1, bg2, bg3, bg4, bg5, bg6, bg7, bg8, bg9, bg10, bg11, bg12, bg13, bg14, bg15, bg16, bg17, bg18, bg19, bg20, tyName, subTy, e, isSit]
  | _ => exact ⟨[], by simp [f_is_situation, b_is_situation, mDef, endR, sRet, sRetN, sE, sSeq, sNx, sIf, sAsg, sExp, asNx, sPar2, sPar3, mVar, mC, mBin, bnd, lf, mB, maC, maN, Sm.ret, Sm.stuck, gNm, gTp, gsC, gsN, gSb, mtB, asB, mtAnd, mtOr, mtNot, mAnd, mOr, mNot, mIf, mCall, mTup, mLst, mDct, mNeg, mIsi, mChain, mSl, mNo, mPt, newL, bg1, bg2, bg3, bg4, bg5, bg6, bg7, bg8, bg9, bg10, bg11, bg12, bg13, bg14, bg15, bg16, bg17, bg18, bg19, bg20, tyName, subTy, isSit]⟩
theorem sit_run {st : Hs} {v : IV} (hz : ∀ n fs, v = .tup [n, .tup fs] → fs.length ≤ big) (h : knI st v = true) : ∃ l, runC f_is_situation [v] st = .ok (.bl (isSit v)) (st ++ l) := by
  by_cases c : clIs [v] = true
  · obtain ⟨l, e⟩ := sit_ok (st := []) hz (kns_mem (kns_cl (st := st) (st' := []) [v] c (by simp [knIs, h])) (by simp))
    exact ⟨[], by rw [List.append_nil]; exact runC_cl c rfl ⟨_, e⟩⟩
  · unfold runC
    rw [if_neg c]
    exact sit_ok hz h
/-! ### steps -/
def isStep (v : IV) : Bool := match v with
  | .tup xs => (match xs.getLast? with
    | none => false
    | some k => isBelow k 5) && (match xs with
    | [w, n, i, _] => (isStr "set" w || isStr "call" w) && isPair (.tup [n, i]) 12
    | [w, n, e, c, i, _] => isStr "leave" w && (isPair (.tup [n, e]) 6 && isPair (.tup [c, i]) 12)
    | [w, p, _] => isStr "end" w && isBelow p 6
    | _ => false)
  | _ => false
theorem step_ok {st : Hs} {v : IV} (h : knI st v = true) : ∃ l, f_is_step [v] st = .ok (.bl (isStep v)) (st ++ l) := by
  cases v with
  | tup xs =>
    cases hl : xs.getLast? with
    | none =>
      have ef : xs = [] := List.getLast?_eq_none_iff.mp hl
      subst ef
      exact ⟨[], by simp [f_is_step, b_is_step, mDef, endR, sRet, sRetN, sE, sSeq, sNx, sIf, sAsg, sExp, asNx, sPar2, sPar3, mVar, mC, mBin, bnd, lf, mB, maC, maN, Sm.ret, Sm.stuck, gNm, gTp, gsC, gsN, gSb, mtB, asB, mtAnd, mtOr, mtNot, mAnd, mOr, mNot, mIf, mCall, mTup, mLst, mDct, mNeg, mIsi, mChain, mSl, mNo, mPt, newL, bg1, bg2, bg3, bg4, bg5, bg6, bg7, bg8, bg9, bg10, bg11, bg12, bg13, bg14, bg15, bg16, bg17, bg18, bg19, bg20, tyName, subTy, oEq, eqI_tup0, isStep]⟩
    | some k =>
      have hk : knI st k = true := kns_mem h (List.mem_of_getLast? hl)
      have e1 := below_run (l := 5) hk
      have nf : xs ≠ [] := fun z => by rw [z] at hl; cases hl
      have nl : (xs.length == 0) = false := by simpa using nf
      by_cases q : isBelow k 5 = true
      · match xs, h, hl with
        | [_], h, hl => exact ⟨[], by simp [f_is_step, b_is_step, mDef, endR, sRet, sRetN, sE, sSeq, sNx, sIf, sAsg, sExp, asNx, sPar2, sPar3, mVar, mC, mBin, bnd, lf, mB, maC, maN, Sm.ret, Sm.stuck, gNm, gTp, gsC, gsN, gSb, mtB, asB, mtAnd, mtOr, mtNot, mAnd, mOr, mNot, mIf, mCall, mTup, mLst, mDct, mNeg, mIsi, mChain, mSl, mNo, mPt, newL, bg1, bg2, bg3, bg4, bg5, bg6, bg7, bg8, bg9, bg10, bg11, bg12, bg13, bg14, bg15, bg16, bg17, bg18, bg19, bg20, tyName, subTy, oEq, eqI_tup0, oIx, seqOf, at_m1, hl, e1, q, sMatch, cC, pSeq, cN, isStep]⟩
        | [w, k2], h, hl =>
          cases (show k2 = k by simpa using hl)
          exact ⟨[], by simp [f_is_step, b_is_step, mDef, endR, sRet, sRetN, sE, sSeq, sNx, sIf, sAsg, sExp, asNx, sPar2, sPar3, mVar, mC, mBin, bnd, lf, mB, maC, maN, Sm.ret, Sm.stuck, gNm, gTp, gsC, gsN, gSb, mtB, asB, mtAnd, mtOr, mtNot, mAnd, mOr, mNot, mIf, mCall, mTup, mLst, mDct, mNeg, mIsi, mChain, mSl, mNo, mPt, newL, bg1, bg2, bg3, bg4, bg5, bg6, bg7, bg8, bg9, bg10, bg11, bg12, bg13, bg14, bg15, bg16, bg17, bg18, bg19, bg20, tyName, subTy, oEq, eqI_tup0, oIx, seqOf, at_m1, e1, q, sMatch, cC, pSeq, psC, pVal, pCap, psN, cN, bindI, isStep]⟩
        | [w, p, k2], h, hl =>
          cases (show k2 = k by simpa using hl)
          have hw := eqP_str (z := "end") (kns_mem h (show w ∈ [w, p, k] by simp))
          have hp : knI st p = true := kns_mem h (by simp)
          have e2 := below_run (l := 6) hp
          by_cases qs : isStr "end" w = true
          · exact ⟨[], by simp [f_is_step, b_is_step, mDef, endR, sRet, sRetN, sE, sSeq, sNx, sIf, sAsg, sExp, asNx, sPar2, sPar3, mVar, mC, mBin, bnd, lf, mB, maC, maN, Sm.ret, Sm.stuck, gNm, gTp, gsC, gsN, gSb, mtB, asB, mtAnd, mtOr, mtNot, mAnd, mOr, mNot, mIf, mCall, mTup, mLst, mDct, mNeg, mIsi, mChain, mSl, mNo, mPt, newL, bg1, bg2, bg3, bg4, bg5, bg6, bg7, bg8, bg9, bg10, bg11, bg12, bg13, bg14, bg15, bg16, bg17, bg18, bg19, bg20, tyName, subTy, oEq, eqI_tup0, oIx, seqOf, at_m1, e1, q, sMatch, cC, pSeq, psC, pVal, pCap, psN, cN, bindI, isStep, hw, qs, e2]⟩
          · exact ⟨[], by simp [f_is_step, b_is_step, mDef, endR, sRet, sRetN, sE, sSeq, sNx, sIf, sAsg, sExp, asNx, sPar2, sPar3, mVar, mC, mBin, bnd, lf, mB, maC, maN, Sm.ret, Sm.stuck, gNm, gTp, gsC, gsN, gSb, mtB, asB, mtAnd, mtOr, mtNot, mAnd, mOr, mNot, mIf, mCall, mTup, mLst, mDct, mNeg, mIsi, mChain, mSl, mNo, mPt, newL, bg1, bg2, bg3, bg4, bg5, bg6, bg7, bg8, bg9, bg10, bg11, bg12, bg13, bg14, bg15, bg16, bg17, bg18, bg19, bg20, tyName, subTy, oEq, eqI_tup0, oIx, seqOf, at_m1, e1, q, sMatch, cC, pSeq, psC, pVal, pCap, psN, cN, bindI, isStep, hw, qs]⟩
        | [w, n, i, k2], h, hl =>
          cases (show k2 = k by simpa using hl)
          have hw := eqP_str (z := "set") (kns_mem h (show w ∈ [w, n, i, k] by simp))
          have hw2 := eqP_str (z := "call") (kns_mem h (show w ∈ [w, n, i, k] by simp))
          have hn : knI st n = true := kns_mem h (by simp)
          have hi : knI st i = true := kns_mem h (by simp)
          obtain ⟨l, e2⟩ := pair_run (st := st) (v := .tup [n, i]) (k := 12) (by simp [knI, knIs, hn, hi])
          by_cases qs : isStr "set" w = true
          · exact ⟨l, by simp [f_is_step, b_is_step, mDef, endR, sRet, sRetN, sE, sSeq, sNx, sIf, sAsg, sExp, asNx, sPar2, sPar3, mVar, mC, mBin, bnd, lf, mB, maC, maN, Sm.ret, Sm.stuck, gNm, gTp, gsC, gsN, gSb, mtB, asB, mtAnd, mtOr, mtNot, mAnd, mOr, mNot, mIf, mCall, mTup, mLst, mDct, mNeg, mIsi, mChain, mSl, mNo, mPt, newL, bg1, bg2, bg3, bg4, bg5, bg6, bg7, bg8, bg9, bg10, bg11, bg12, bg13, bg14, bg15, bg16, bg17, bg18, bg19, bg20, tyName, subTy, oEq, eqI_tup0, oIx, seqOf, at_m1, e1, q, sMatch, cC, pSeq, psC, pVal, pCap, psN, cN, bindI, isStep, hw, hw2, qs, e2]⟩
          · by_cases qc : isStr "call" w = true
            · exact ⟨l, by simp [f_is_step, b_is_step, mDef, endR, sRet, sRetN, sE, sSeq, sNx, sIf, sAsg, sExp, asNx, sPar2, sPar3, mVar, mC, mBin, bnd, lf, mB, maC, maN, Sm.ret, Sm.stuck, gNm, gTp, gsC, gsN, gSb, mtB, asB, mtAnd, mtOr, mtNot, mAnd, mOr, mNot, mIf, mCall, mTup, mLst, mDct, mNeg, mIsi, mChain, mSl, mNo, mPt, newL, bg1, bg2, bg3, bg4, bg5, bg6, bg7, bg8, bg9, bg10, bg11, bg12, bg13, bg14, bg15, bg16, bg17, bg18, bg19, bg20, tyName, subTy, oEq, eqI_tup0, oIx, seqOf, at_m1, e1, q, sMatch, cC, pSeq, psC, pVal, pCap, psN, cN, bindI, isStep, hw, hw2, qs, qc, e2]⟩
            · exact ⟨[], by simp [f_is_step, b_is_step, mDef, endR, sRet, sRetN, sE, sSeq, sNx, sIf, sAsg, sExp, asNx, sPar2, sPar3, mVar, mC, mBin, bnd, lf, mB, maC, maN, Sm.ret, Sm.stuck, gNm, gTp, gsC, gsN, gSb, mtB, asB, mtAnd, mtOr, mtNot, mAnd, mOr, mNot, mIf, mCall, mTup, mLst, mDct, mNeg, mIsi, mChain, mSl, mNo, mPt, newL, bg1, bg2, bg3, bg4, bg5, bg6, bg7, bg8, bg9, bg10, bg11, bg12, bg13, bg14, bg15, bg16, bg17, bg18, bg19, bg20, tyName, subTy, oEq, eqI_tup0, oIx, seqOf, at_m1, e1, q, sMatch, cC, pSeq, psC, pVal, pCap, psN, cN, bindI, isStep, hw, hw2, qs, qc]⟩
        | [_, _, _, _, k2], h, hl =>
          cases (show k2 = k by simpa using hl)
          exact ⟨[], by simp [f_is_step, b_is_step, mDef, endR, sRet, sRetN, sE, sSeq, sNx, sIf, sAsg, sExp, asNx, sPar2, sPar3, mVar, mC, mBin, bnd, lf, mB, maC, maN, Sm.ret, Sm.stuck, gNm, gTp, gsC, gsN, gSb, mtB, asB, mtAnd, mtOr, mtNot, mAnd, mOr, mNot, mIf, mCall, mTup, mLst, mDct, mNeg, mIsi, mChain, mSl, mNo, mPt, newL, bg1, bg2, bg3, bg4, bg5, bg6, bg7, bg8, bg9, bg10, bg11, bg12, bg13, bg14, bg15, bg16, bg17, bg18, bg19, bg20, tyName, subTy, oEq, eqI_tup0, oIx, seqOf, at_m1, e1, q, sMatch, cC, pSeq, psC, pVal, pCap, psN, cN, bindI, isStep]⟩
        | [w, n, e, c, i, k2], h, hl =>
          cases (show k2 = k by simpa using hl)
          have hw := eqP_str (z := "leave") (kns_mem h (show w ∈ [w, n, e, c, i, k] by simp))
          have hn : knI st n = true := kns_mem h (by simp)
          have he : knI st e = true := kns_mem h (by simp)
          have hc : knI st c = true := kns_mem h (by simp)
          have hi : knI st i = true := kns_mem h (by simp)
          obtain ⟨l, e2⟩ := pair_run (st := st) (v := .tup [n, e]) (k := 6) (by simp [knI, knIs, hn, he])
          obtain ⟨l2, e3⟩ := pair_run (st := st ++ l) (v := .tup [c, i]) (k := 12) (kn_app (by simp [knI, knIs, hc, hi]))
          by_cases qs : isStr "leave" w = true
          · by_cases qp : isPair (.tup [n, e]) 6 = true
            · exact ⟨l ++ l2, by simp [f_is_step, b_is_step, mDef, endR, sRet, sRetN, sE, sSeq, sNx, sIf, sAsg, sExp, asNx, sPar2, sPar3, mVar, mC, mBin, bnd, lf, mB, maC, maN, Sm.ret, Sm.stuck, gNm, gTp, gsC, gsN, gSb, mtB, asB, mtAnd, mtOr, mtNot, mAnd, mOr, mNot, mIf, mCall, mTup, mLst, mDct, mNeg, mIsi, mChain, mSl, mNo, mPt, newL, bg1, bg2, bg3, bg4, bg5, bg6, bg7, bg8, bg9, bg10, bg11, bg12, bg13, bg14, bg15, bg16, bg17, bg18, bg19, bg20, tyName, subTy, oEq, eqI_tup0, oIx, seqOf, at_m1, e1, q, sMatch, cC, pSeq, psC, pVal, pCap, psN, cN, bindI, isStep, hw, qs, qp, e2, e3]⟩
            · exact ⟨l, by simp [f_is_step, b_is_step, mDef, endR, sRet, sRetN, sE, sSeq, sNx, sIf, sAsg, sExp, asNx, sPar2, sPar3, mVar, mC, mBin, bnd, lf, mB, maC, maN, Sm.ret, Sm.stuck, gNm, gTp, gsC, gsN, gSb, mtB, asB, mtAnd, mtOr, mtNot, mAnd, mOr, mNot, mIf, mCall, mTup, mLst, mDct, mNeg, mIsi, mChain, mSl, mNo, mPt, newL, bg1, bg2, bg3, bg4, bg5, bg6, bg7, bg8, bg9, bg10, bg11, bg12, bg13, bg14, bg15, bg16, bg17, bg18, bg19, bg20, tyName, subTy, oEq, eqI_tup0, oIx, seqOf, at_m1, e1, q, sMatch, cC, pSeq, psC, pVal, pCap, psN, cN, bindI, isStep, hw, qs, qp, e2]⟩
          · exact ⟨[], by simp [f_is_step, b_is_step, mDef, endR, sRet, sRetN, sE, sSeq, sNx, sIf, sAsg, sExp, asNx, sPar2, sPar3, mVar, mC, mBin, bnd, lf, mB, maC, maN, Sm.ret, Sm.stuck, gNm, gTp, gsC, gsN, gSb, mtB, asB, mtAnd, mtOr, mtNot, mAnd, mOr, mNot, mIf, mCall, mTup, mLst, mDct, mNeg, mIsi, mChain, mSl, mNo, mPt, newL, bg1, bg2, bg3, bg4, bg5, bg6, bg7, bg8, bg9, bg10, bg11, bg12, bg13, bg14, bg15, bg16, bg17, bg18, bg19, bg20, tyName, subTy, oEq, eqI_tup0, oIx, seqOf, at_m1, e1, q, sMatch, cC, pSeq, psC, pVal, pCap, psN, cN, bindI, isStep, hw, qs]⟩
        | a :: b :: c :: d :: e :: f :: g :: r, h, hl =>
          have es : isStep (.tup (a :: b :: c :: d :: e :: f :: g :: r)) = false := by
            simp [isStep]
          rw [es]
          exact ⟨[], by simp [f_is_step, b_is_step, mDef, endR, sRet, sRetN, sE, sSeq, sNx, sIf, sAsg, sExp, asNx, sPar2, sPar3, mVar, mC, mBin, bnd, lf, mB, maC, maN, Sm.ret, Sm.stuck, gNm, gTp, gsC, gsN, gSb, mtB, asB, mtAnd, mtOr, mtNot, mAnd, mOr, mNot, mIf, mCall, mTup, mLst, mDct, mNeg, mIsi, mChain, mSl, mNo, mPt, newL, bg1, bg2, bg3, bg4, bg5, bg6, bg7, bg8, bg9, bg10, bg11, bg12, bg13, bg14, bg15, bg16, bg17, bg18, bg19, bg20, tyName, subTy, oEq, eqI_tup0, oIx, seqOf, at_m1, e1, q, sMatch, cC, pSeq, psC, pVal, pCap, psN, cN, bindI, isStep, hl]⟩
      · have es : isStep (.tup xs) = false := by
          simp only [Bool.not_eq_true] at q
          simp [isStep, hl, q]
        rw [es]
        exact ⟨[], by simp [f_is_step, b_is_step, mDef, endR, sRet, sRetN, sE, sSeq, sNx, sIf, sAsg, sExp, asNx, sPar2, sPar3, mVar, mC, mBin, bnd, lf, mB, maC, maN, Sm.ret, Sm.stuck, gNm, gTp, gsC, gsN, gSb, mtB, asB, mtAnd, mtOr, mtNot, mAnd, mOr, mNot, mIf, mCall, mTup, mLst, mDct, mNeg, mIsi, mChain, mSl, mNo, mPt, newL, bg1, bg2, bg3, bg4, bg5, bg6, bg7, bg8, bg9, bg10, bg11, bg12, bg13, bg14, bg15, bg16, bg17, bg18, bg19, bg20, tyName, subTy, oEq, eqI_tup0, oIx, seqOf, at_m1, hl, e1, q, nl, nf]⟩
  | ref a =>
    obtain ⟨o, e⟩ := Option.isSome_iff_exists.mp (show (st[a]?).isSome = true from h)
    refine ⟨[], ?_⟩
    cases o <;> simp [f_is_step, b_is_step, mDef, endR, sRet, sRetN, sE, sSeq, sNx, sIf, sAsg, sExp, asNx, sPar2, sPar3, mVar, mC, mBin, bnd, lf, mB, maC, maN, Sm.ret, Sm.stuck, gNm, gTp, gsC, gsN, gSb, mtB, asB, mtAnd, mtOr, mtNot, mAnd, mOr, mNot, mIf, mCall, mTup, mLst, mDct, mNeg, mIsi, mChain, mSl, mNo, mPt, newL, bg1, bg2, bg3, bg4, bg5, bg6, bg7, bg8, bg9, bg10, bg11, bg12, bg13, bg14, bg15, bg16, bg17, bg18, bg19, bg20, tyName, subTy, e, isStep]
  | _ => exact ⟨[], by simp [f_is_step, b_is_step, mDef, endR, sRet, sRetN, sE, sSeq, sNx, sIf, sAsg, sExp, asNx, sPar2, sPar3, mVar, mC, mBin, bnd, lf, mB, maC, maN, Sm.ret, Sm.stuck, gNm, gTp, gsC, gsN, gSb, mtB, asB, mtAnd, mtOr, mtNot, mAnd, mOr, mNot, mIf, mCall, mTup, mLst, mDct, mNeg, mIsi, mChain, mSl, mNo, mPt, newL, bg1, bg2, bg3, bg4, bg5, bg6, bg7, bg8, bg9, bg10, bg11, bg12, bg13, bg14, bg15, bg16, bg17, bg18, bg19, bg20, tyName, subTy, isStep]⟩
end K01

set_option Elab.async false
set_option linter.all false
set_option maxRecDepth 100000
set_option maxHeartbeats 4000000
namespace K01
open Sm L2 PySem PySem.Spec
theorem Gr.lst {a b : Nat} {st st' : Hs} {xs : List IV} (g : Gr a st st') (h : st[b]? = some (.lst xs)) (n : b ≠ a) : st'[b]? = some (.lst xs) := (g.fr b n (List.getElem?_eq_some_iff.mp h).1).trans h
theorem take_run {st : Hs} {a : Nat} (h : Urn st a) (t : Int) (h0 : 0 < t) (h1 : t < 1073741824) : ∃ n st', runC f__law_take [.ref a, .int t] st = .ok (.int n) st' ∧ 0 ≤ n ∧ n < t ∧ Gr a st st' ∧ st'.length = st.length := by
  obtain ⟨n, st', e, r⟩ := take_ok h t h0 h1
  exact ⟨n, st', by rw [runC_ref]; exact e, r⟩
theorem one_run {st : Hs} {a b : Nat} {xs : List IV} (h : Urn st a) (hb : st[b]? = some (.lst xs)) (ne : b ≠ a) (h0 : 0 < xs.length) (h1 : xs.length < 1073741824) :
    ∃ x st', runC f__law_one [.ref a, .ref b] st = .ok x st' ∧ x ∈ xs ∧ Gr a st st' ∧ st'.length = st.length := by
  obtain ⟨n, st', e, n0, n1, g, gl⟩ := take_run h (xs.length : Int) (by omega) (by omega)
  have hb' := g.lst hb ne
  have hn : n.toNat < xs.length := by omega
  refine ⟨xs[n.toNat], st', ?_, List.getElem_mem hn, g, gl⟩
  rw [runC_ref]
  simp [f__law_one, b__law_one, mDef, endR, sRet, sRetN, sE, sSeq, sNx, sIf, sAsg, sExp, asNx, sPar2, sPar3, mVar, mC, mBin, bnd, lf, mB, maC, maN, Sm.ret, Sm.stuck, gNm, gTp, gsC, gsN, gSb, mtB, asB, mtAnd, mtOr, mtNot, mAnd, mOr, mNot, mIf, mCall, mTup, mLst, mDct, mNeg, mIsi, mChain, mSl, mNo, mPt, newL, bg1, bg2, bg3, bg4, bg5, bg6, bg7, bg8, bg9, bg10, bg11, bg12, bg13, bg14, bg15, bg16, bg17, bg18, bg19, bg20, bLen, seqOf, lstOf, ioL, hb, e, oIx, hb', at_int _ n0, hn]
/-- one of a list that was just laid -/
theorem one_new {st : Hs} {a : Nat} (xs : List IV) (h : Urn st a) (h0 : 0 < xs.length) (h1 : xs.length < 1073741824) :
    ∃ x st', runC f__law_one [.ref a, .ref st.length] (st ++ [.lst xs]) = .ok x st' ∧ x ∈ xs ∧ Gr a st st' := by
  obtain ⟨x, st', e, m, g, _⟩ := one_run (st := st ++ [.lst xs]) (a := a) (b := st.length) (xs := xs) (Gr.app h).urn (by simp) (by have := h.lt; omega) h0 h1
  exact ⟨x, st', e, m, (Gr.app h).trans g⟩
theorem join_signs : ∀ cs : List Nat, Txt.join "" (cs.map fun c => (⟨#[c]⟩ : Str)) = ⟨cs.toArray⟩ := by
  intro cs
  show Builtin.Str.glued "" _ = _
  rw [StrLaws.glued_eq_join]
  induction cs with
  | nil => rfl
  | cons c cs ih =>
    cases cs with
    | nil => rfl
    | cons d r =>
      show (⟨#[c]⟩ : Str) ++ "" ++ Str.join "" ((d :: r).map fun c => (⟨#[c]⟩ : Str)) = _
      rw [ih]
      show (⟨(#[c] ++ #[]) ++ (d :: r).toArray⟩ : Str) = _
      simp
theorem strs_signs {L : List Nat} : ∀ {xs : List IV}, (∀ x ∈ xs, ∃ c, x = .str ⟨#[c]⟩ ∧ c ∈ L) → ∃ cs : List Nat, strsOf xs = some (cs.map fun c => ⟨#[c]⟩) ∧ cs.length = xs.length ∧ ∀ c ∈ cs, c ∈ L
  | [], _ => ⟨[], rfl, rfl, by simp⟩
  | x :: xs, h => by
    obtain ⟨c, rfl, hc⟩ := h x (by simp)
    obtain ⟨cs, e1, e2, e3⟩ := strs_signs (xs := xs) (fun y hy => h y (by simp [hy]))
    exact ⟨c :: cs, by simp [strsOf, e1], by simp [e2], fun d hd => by
      rcases List.mem_cons.mp hd with q | q
      · rw [q]; exact hc
      · exact e3 d q⟩
/-- a drawn name -/
def Nm (v : IV) : Prop := ∃ cs : List Nat, v = .str ⟨cs.toArray⟩ ∧ 0 < cs.length ∧ cs.length ≤ 8 ∧ ∀ c ∈ cs, c ∈ LET.cps.toList
theorem Nm.is {v : IV} (h : Nm v) : isName v = true := by
  obtain ⟨cs, rfl, h0, h1, h2⟩ := h
  have e : (⟨cs.toArray⟩ : Str).length = cs.length := rfl
  unfold isName
  simp only [e, h0, h1, decide_true, Bool.true_and]
  simpa using h2
theorem name_run' {st : Hs} {a : Nat} (h : Urn st a) : ∃ v st', runC f__law_name [.ref a] st = .ok v st' ∧ Nm v ∧ Gr a st st' := by
  obtain ⟨n, st1, e1, n0, n1, g1, _⟩ := take_run h 8 (by decide) (by decide)
  have hn : (1 + n).toNat ≤ 8 := by omega
  obtain ⟨xs, st2, e2, l2, p2, g2⟩ := goLc_all (s := .rng 0 (1 + n).toNat) (g := gNm 2) (m := mBin oIx (mVar 1) (mCall f__law_take (maC (mVar 0) (maC (mC (.int 26)) maN)))) (env := [some (.ref a), some (.str "abcdefghijklmnopqrstuvwxyz"), none])
    (Pr := fun x => ∃ c, x = .str ⟨#[c]⟩ ∧ c ∈ LET.cps.toList) (Rl := Gr a) (fun _ _ g => Gr.refl g.urn) (fun _ _ _ x y => x.trans y) (fun _ _ => rfl) (fun i st hi g => by
      have hi : i < (1 + n).toNat := hi
      obtain ⟨k, st', e, k0, k1, g', _⟩ := take_run g.urn 26 (by decide) (by decide)
      have hk : k.toNat < LET.cps.toList.length := by
        have : LET.cps.toList.length = 26 := rfl
        omega
      refine ⟨.int (0 + i), _, .str ⟨#[LET.cps.toList[k.toNat]]⟩, st', by simp [Src.item, hi], rfl, ?_, ⟨_, rfl, List.getElem_mem hk⟩, g'⟩
      have ek : atI (Str.ofString "abcdefghijklmnopqrstuvwxyz").cps.toList k = some LET.cps.toList[k.toNat] := by
        rw [at_int _ k0]
        exact List.getElem?_eq_getElem hk
      have eb : (Str.ofString "abcdefghijklmnopqrstuvwxyz").length ≤ big := by decide +kernel
      simp only [mDef, endR, sRet, sRetN, sE, sSeq, sNx, sIf, sAsg, sExp, asNx, sPar2, sPar3, mVar, mC, mBin, bnd, lf, mB, maC, maN, Sm.ret, Sm.stuck, gNm, gTp, gsC, gsN, gSb, mtB, asB, mtAnd, mtOr, mtNot, mAnd, mOr, mNot, mIf, mCall, mTup, mLst, mDct, mNeg, mIsi, mChain, mSl, mNo, mPt, newL, bg1, bg2, bg3, bg4, bg5, bg6, bg7, bg8, bg9, bg10, bg11, bg12, bg13, bg14, bg15, bg16, bg17, bg18, bg19, bg20, List.set_cons_succ, List.set_cons_zero, List.getElem?_cons_zero, List.getElem?_cons_succ, e, oIx, eb, if_true, ek, Option.map_some]) (1 + n).toNat 0 [] st1 (Nat.zero_add _) (Nat.le_trans hn (by decide)) rfl (Gr.refl g1.urn) (by simp)
  obtain ⟨cs, e3, l3, p3⟩ := strs_signs p2
  have l2 : xs.length = (1 + n).toNat := l2
  refine ⟨.str ⟨cs.toArray⟩, st2 ++ [.lst xs], ?_, ⟨cs, rfl, by omega, by omega, p3⟩, (g1.trans g2).trans (Gr.app g2.urn)⟩
  have e5 : (st2 ++ [IO.lst xs])[st2.length]? = some (.lst xs) := by simp
  have e6 : (cs.map fun c => (⟨#[c]⟩ : Str).length).sum ≤ 8 := by
    have : ∀ cs : List Nat, (cs.map fun c => (⟨#[c]⟩ : Str).length).sum = cs.length := by
      intro cs
      induction cs with
      | nil => rfl
      | cons c cs ih =>
        rw [List.map_cons, List.sum_cons, ih, List.length_cons]
        show 1 + cs.length = cs.length + 1
        omega
    rw [this]
    omega
  have e7 : (List.map ((fun x => Str.length x) ∘ fun c => (⟨#[c]⟩ : Str)) cs).sum + cs.length * (Str.ofString "").length ≤ big := by
    rw [show (Str.ofString "").length = 0 from rfl, Nat.mul_zero]
    exact Nat.le_trans e6 (by decide)
  rw [runC_ref]
  have c1 : -4611686018427387904 ≤ 1 + n := by omega
  have c2 : 1 + n < 4611686018427387904 := by omega
  unfold f__law_name b__law_name
  generalize mBin oIx (mVar 1) (mCall f__law_take (maC (mVar 0) (maC (mC (.int 26)) maN))) = mm at e2 ⊢
  simp [mDef, endR, sRet, sRetN, sE, sSeq, sNx, sIf, sAsg, sExp, asNx, sPar2, sPar3, mVar, mC, mBin, bnd, lf, mB, maC, maN, Sm.ret, Sm.stuck, gNm, gTp, gsC, gsN, gSb, mtB, asB, mtAnd, mtOr, mtNot, mAnd, mOr, mNot, mIf, mCall, mTup, mLst, mDct, mNeg, mIsi, mChain, mSl, mNo, mPt, newL, bg1, bg2, bg3, bg4, bg5, bg6, bg7, bg8, bg9, bg10, bg11, bg12, bg13, bg14, bg15, bg16, bg17, bg18, bg19, bg20, mJoin, mLc, iRg1, e1, oAdd, c1, c2, wipeI, Src.n, e2, oJoin, seqOf, lstOf, ioL, e5, e3, e7, join_signs]
/-! ### drawn situations -/
def Ix (v : IV) (l : Int) : Prop := ∃ i : Int, v = .int i ∧ 0 ≤ i ∧ i < l
def Pr (v : IV) (l : Int) : Prop := ∃ n i, v = .tup [n, i] ∧ Nm n ∧ Ix i l
theorem Ix.is {v : IV} {l : Int} (h : Ix v l) (hl : l ≤ 12) : isBelow v l = true := by
  obtain ⟨i, rfl, h0, h1⟩ := h
  have a : -10000000000000000000000000000000000000000 < i := by omega
  have b : i < 10000000000000000000000000000000000000000 := by omega
  simp [isBelow, a, b, h0, h1]
theorem Pr.is {v : IV} {l : Int} (h : Pr v l) (hl : l ≤ 12) : isPair v l = true := by
  obtain ⟨n, i, rfl, h1, h2⟩ := h
  simp [isPair, h1.is, h2.is hl]
theorem Nm.cl {v : IV} (h : Nm v) : clI v = true := by obtain ⟨cs, rfl, _⟩ := h; rfl
theorem Ix.cl {v : IV} {l : Int} (h : Ix v l) : clI v = true := by obtain ⟨i, rfl, _⟩ := h; rfl
theorem Pr.cl {v : IV} {l : Int} (h : Pr v l) : clI v = true := by
  obtain ⟨n, i, rfl, h1, h2⟩ := h
  simp [clI, clIs, h1.cl, h2.cl]
theorem Nm.kn {v : IV} (h : Nm v) (st : Hs) : knI st v = true := by
  obtain ⟨cs, rfl, h0, h1, _⟩ := h
  refine decide_eq_true (Nat.le_trans (show cs.toArray.size ≤ 8 by simpa using h1) (by decide))
theorem Ix.kn {v : IV} {l : Int} (h : Ix v l) (st : Hs) : knI st v = true := by obtain ⟨i, rfl, _⟩ := h; rfl
theorem Pr.kn {v : IV} {l : Int} (h : Pr v l) (st : Hs) : knI st v = true := by
  obtain ⟨n, i, rfl, h1, h2⟩ := h
  simp [knI, knIs, h1.kn st, h2.kn st]
/-- (a drawn name, one of three indices) -/
theorem pair_drawn {st : Hs} {a : Nat} {r : Sm.Env} (h : Urn st a) (m l : Int) (hm : 0 ≤ m ∧ m < l) (hl : 1 < l ∧ l ≤ 12) : ∃ v st', mTup (maC (mCall f__law_name (maC (mVar 0) maN)) (maC (mCall f__law_one (maC (mVar 0) (maC (mLst (maC (mC (.int 0)) (maC (mC (.int m)) (maC (mCall f__law_take (maC (mVar 0) (maC (mC (.int l)) maN))) maN)))) maN))) maN)) (some (.ref a) :: r) st = .ok v st' ∧ Pr v l ∧ Gr a st st' := by
  obtain ⟨n, st1, e1, p1, g1⟩ := name_run' h
  obtain ⟨k, st2, e2, k0, k1, g2, _⟩ := take_run g1.urn l (by omega) (by omega)
  obtain ⟨x, st3, e3, m3, g3⟩ := one_new [.int 0, .int m, .int k] g2.urn (by simp) (by simp)
  refine ⟨.tup [n, x], st3, ?_, ⟨n, x, rfl, p1, ?_⟩, (g1.trans g2).trans g3⟩
  · simp [mDef, endR, sRet, sRetN, sE, sSeq, sNx, sIf, sAsg, sExp, asNx, sPar2, sPar3, mVar, mC, mBin, bnd, lf, mB, maC, maN, Sm.ret, Sm.stuck, gNm, gTp, gsC, gsN, gSb, mtB, asB, mtAnd, mtOr, mtNot, mAnd, mOr, mNot, mIf, mCall, mTup, mLst, mDct, mNeg, mIsi, mChain, mSl, mNo, mPt, newL, bg1, bg2, bg3, bg4, bg5, bg6, bg7, bg8, bg9, bg10, bg11, bg12, bg13, bg14, bg15, bg16, bg17, bg18, bg19, bg20, e1, e2, e3]
  · simp at m3
    rcases m3 with q | q | q
    · exact ⟨0, q, by omega, by omega⟩
    · exact ⟨m, q, by omega, by omega⟩
    · exact ⟨k, q, by omega, by omega⟩
def Fr (fs : List IV) : Prop := fs = [] ∨ ∃ ys y, fs = ys ++ [y] ∧ (∀ p ∈ ys, Pr p 12) ∧ Pr y 6
theorem Pr.mono {v : IV} {k l : Int} (h : Pr v k) (hl : k ≤ l) : Pr v l := by
  obtain ⟨n, i, rfl, h1, j, rfl, h2, h3⟩ := h
  exact ⟨n, _, rfl, h1, j, rfl, h2, by omega⟩
theorem Fr.all {fs : List IV} (h : Fr fs) : ∀ p ∈ fs, Pr p 12 := by
  rcases h with rfl | ⟨ys, y, rfl, h1, h2⟩
  · simp
  · intro p hp
    rcases List.mem_append.mp hp with q | q
    · exact h1 p q
    · rw [List.mem_singleton.mp q]; exact h2.mono (by decide)
theorem Gr.setb {a b : Nat} {st st' : Hs} {o : IO} (g : Gr a st st') (n : b ≠ a) (l : st.length ≤ b) : Gr a st (st'.set b o) := ⟨by simp [g.le], by
  obtain ⟨u, h1, h2⟩ := g.urn
  exact ⟨u, by rw [List.getElem?_set_ne n]; exact h1, h2⟩, fun i h1 h2 => by rw [List.getElem?_set_ne (by omega)]; exact g.fr i h1 h2⟩
theorem sit_drawn {st : Hs} {a : Nat} (h : Urn st a) : ∃ n b fs st', runC f__law_situation [.ref a] st = .ok (.tup [n, .ref b]) st' ∧ Ix n 5 ∧ st'[b]? = some (.lst fs) ∧ Fr fs ∧ fs.length ≤ 4 ∧ b ≠ a ∧ Gr a st st' := by
  obtain ⟨n, st1, e1, n0, n1, g1, _⟩ := take_run h 4 (by decide) (by decide)
  have hn : n.toNat ≤ 3 := by omega
  obtain ⟨xs, st2, e2, l2, p2, g2⟩ := goLc_all (s := .rng 0 n.toNat) (g := gNm 2) (m := mTup (maC (mCall f__law_name (maC (mVar 0) maN)) (maC (mCall f__law_one (maC (mVar 0) (maC (mLst (maC (mC (.int 0)) (maC (mC (.int 11)) (maC (mCall f__law_take (maC (mVar 0) (maC (mC (.int 12)) maN))) maN)))) maN))) maN))) (env := [some (.ref a), none, none])
    (Pr := fun x => Pr x 12) (Rl := Gr a) (fun _ _ g => Gr.refl g.urn) (fun _ _ _ x y => x.trans y) (fun _ _ => rfl) (fun i st hi g => by
      have hi : i < n.toNat := hi
      obtain ⟨v, st', e, p, g'⟩ := pair_drawn (r := [none, some (.int (0 + i))]) g.urn 11 12 (by decide) (by decide)
      exact ⟨.int (0 + i), _, v, st', by simp [Src.item, hi], rfl, e, p, g'⟩) n.toNat 0 [] st1 (Nat.zero_add _) (Nat.le_trans hn (by decide)) rfl (Gr.refl g1.urn) (by simp)
  have l2 : xs.length = n.toNat := l2
  have g12 := g1.trans g2
  have g3 : Gr a st (st2 ++ [.lst xs]) := g12.trans (Gr.app g2.urn)
  have nb : st2.length ≠ a := by have := g2.urn.lt; omega
  have lb : st.length ≤ st2.length := g12.le
  have eb : (st2 ++ [IO.lst xs])[st2.length]? = some (.lst xs) := by simp
  obtain ⟨k, st4, e4, k0, k1, g4, _⟩ := take_run g3.urn 5 (by decide) (by decide)
  have eb4 := g4.lst eb nb
  have c1 : -4611686018427387904 ≤ n := by omega
  have c2 : n < 4611686018427387904 := by omega
  rw [runC_ref]
  unfold f__law_situation b__law_situation
  generalize mTup (maC (mCall f__law_name (maC (mVar 0) maN)) (maC (mCall f__law_one (maC (mVar 0) (maC (mLst (maC (mC (.int 0)) (maC (mC (.int 11)) (maC (mCall f__law_take (maC (mVar 0) (maC (mC (.int 12)) maN))) maN)))) maN))) maN)) = mm at e2 ⊢
  by_cases q : 0 < k
  · obtain ⟨v, st5, e5, p5, g5⟩ := pair_drawn (r := [some (.ref st2.length), none]) g4.urn 5 6 (by decide) (by decide)
    generalize mTup (maC (mCall f__law_name (maC (mVar 0) maN)) (maC (mCall f__law_one (maC (mVar 0) (maC (mLst (maC (mC (.int 0)) (maC (mC (.int 5)) (maC (mCall f__law_take (maC (mVar 0) (maC (mC (.int 6)) maN))) maN)))) maN))) maN)) = m6 at e5 ⊢
    have eb5 := g5.lst eb4 nb
    have hlt : st2.length < st5.length := (List.getElem?_eq_some_iff.mp eb5).1
    have g6 : Gr a st (st5.set st2.length (.lst (xs ++ [v]))) := ((g3.trans g4).trans g5).setb nb lb
    obtain ⟨j, st7, e7, j0, j1, g7, _⟩ := take_run g6.urn 5 (by decide) (by decide)
    have hx : xs.length < big := Nat.lt_of_le_of_lt (l2 ▸ hn) (by decide)
    refine ⟨.int j, st2.length, xs ++ [v], st7, ?_, ⟨j, rfl, j0, j1⟩, g7.lst (by simp [hlt]) nb, .inr ⟨xs, v, rfl, p2, p5⟩, by simp; omega, nb, g6.trans g7⟩
    simp [mDef, endR, sRet, sRetN, sE, sSeq, sNx, sIf, sAsg, sExp, asNx, sPar2, sPar3, mVar, mC, mBin, bnd, lf, mB, maC, maN, Sm.ret, Sm.stuck, gNm, gTp, gsC, gsN, gSb, mtB, asB, mtAnd, mtOr, mtNot, mAnd, mOr, mNot, mIf, mCall, mTup, mLst, mDct, mNeg, mIsi, mChain, mSl, mNo, mPt, newL, bg1, bg2, bg3, bg4, bg5, bg6, bg7, bg8, bg9, bg10, bg11, bg12, bg13, bg14, bg15, bg16, bg17, bg18, bg19, bg20, mLc, iRg1, e1, c1, c2, wipeI, Src.n, e2, e4, oGt, q, mMth, ioL, eb4, e5, tAppend, eb5, hx, e7]
  · by_cases hx : xs = []
    · subst hx
      have g5 : Gr a st (st4 ++ [.lst []]) := (g3.trans g4).trans (Gr.app g4.urn)
      have eb5 := (Gr.app (l := [.lst []]) g4.urn).lst eb4 nb
      obtain ⟨j, st7, e7, j0, j1, g7, _⟩ := take_run g5.urn 5 (by decide) (by decide)
      refine ⟨.int j, st2.length, [], st7, ?_, ⟨j, rfl, j0, j1⟩, g7.lst eb5 nb, .inl rfl, by simp, nb, g5.trans g7⟩
      have e8 : eqI (st4 ++ [.lst []]) 40 (.ref st2.length) (.ref st4.length) = some true := eqI_lst0 (xs := []) (by rw [eb5]; rfl) (by simp [ioL])
      simp [mDef, endR, sRet, sRetN, sE, sSeq, sNx, sIf, sAsg, sExp, asNx, sPar2, sPar3, mVar, mC, mBin, bnd, lf, mB, maC, maN, Sm.ret, Sm.stuck, gNm, gTp, gsC, gsN, gSb, mtB, asB, mtAnd, mtOr, mtNot, mAnd, mOr, mNot, mIf, mCall, mTup, mLst, mDct, mNeg, mIsi, mChain, mSl, mNo, mPt, newL, bg1, bg2, bg3, bg4, bg5, bg6, bg7, bg8, bg9, bg10, bg11, bg12, bg13, bg14, bg15, bg16, bg17, bg18, bg19, bg20, mLc, iRg1, e1, c1, c2, wipeI, Src.n, e2, e4, oGt, q, oNe, e8, e7]
    · obtain ⟨ys, y, rfl⟩ : ∃ ys y, xs = ys ++ [y] := ⟨xs.dropLast, xs.getLast hx, (List.dropLast_concat_getLast hx).symm⟩
      obtain ⟨nm, ix, rfl, hnm, hix⟩ := p2 y (by simp)
      have g5 : Gr a st (st4 ++ [.lst []]) := (g3.trans g4).trans (Gr.app g4.urn)
      have eb5 := (Gr.app (l := [.lst []]) g4.urn).lst eb4 nb
      obtain ⟨i, st6, e6, i0, i1, g6, _⟩ := take_run g5.urn 6 (by decide) (by decide)
      have eb6 := g6.lst eb5 nb
      have hlt : st2.length < st6.length := (List.getElem?_eq_some_iff.mp eb6).1
      have g7 : Gr a st (st6.set st2.length (.lst (ys ++ [.tup [nm, .int i]]))) := (g5.trans g6).setb nb lb
      obtain ⟨j, st8, e8, j0, j1, g8, _⟩ := take_run g7.urn 5 (by decide) (by decide)
      refine ⟨.int j, st2.length, ys ++ [.tup [nm, .int i]], st8, ?_, ⟨j, rfl, j0, j1⟩, g8.lst (by simp [hlt]) nb, .inr ⟨ys, _, rfl, fun p hp => p2 p (by simp [hp]), nm, _, rfl, hnm, i, rfl, i0, i1⟩, by simp at l2 ⊢; omega, nb, g7.trans g8⟩
      have e9 : eqI (st4 ++ [.lst []]) 40 (.ref st2.length) (.ref st4.length) = some false := by
        have := eqI_lst0 (st := st4 ++ [.lst []]) (a := st2.length) (b := st4.length) (xs := ys ++ [.tup [nm, ix]]) (by rw [eb5]; rfl) (by simp [ioL])
        rw [this]
        simp
      have e10 : setI (.ref st2.length) (.int (-1)) (.tup [nm, .int i]) st6 = some (st6.set st2.length (.lst (ys ++ [.tup [nm, .int i]]))) := by
        unfold setI
        simp only [ioL, eb6, Option.bind_some]
        have e11 : ixN (ys ++ [IV.tup [nm, ix]]).length (-1) = some ys.length := by
          unfold ixN
          rw [if_neg (by decide), if_pos (by simp; omega)]
          simp
          omega
        rw [e11]
        simp
      simp [mDef, endR, sRet, sRetN, sE, sSeq, sNx, sIf, sAsg, sExp, asNx, sPar2, sPar3, mVar, mC, mBin, bnd, lf, mB, maC, maN, Sm.ret, Sm.stuck, gNm, gTp, gsC, gsN, gSb, mtB, asB, mtAnd, mtOr, mtNot, mAnd, mOr, mNot, mIf, mCall, mTup, mLst, mDct, mNeg, mIsi, mChain, mSl, mNo, mPt, newL, bg1, bg2, bg3, bg4, bg5, bg6, bg7, bg8, bg9, bg10, bg11, bg12, bg13, bg14, bg15, bg16, bg17, bg18, bg19, bg20, mLc, iRg1, e1, c1, c2, wipeI, Src.n, e2, e4, oGt, q, oNe, e9, oIx, seqOf, lstOf, ioL, eb5, at_m1, at0, e6, e10, e8]
theorem one3 {st : Hs} {a : Nat} (h : Urn st a) (m l : Int) (hm : 0 ≤ m ∧ m < l) (hl : 1 < l ∧ l ≤ 12) {f : Sm.Env → M Bool} {r : Sm.Env} : ∃ v st', mCall f__law_one (maC (mVar 0) (maC (mLst (maC (mC (.int 0)) (maC (mC (.int m)) (maC (mCall f__law_take (maC (mVar 0) (maC (mC (.int l)) maN))) maN)))) maN)) (some (.ref a) :: r) st = .ok v st' ∧ Ix v l ∧ Gr a st st' := by
  obtain ⟨k, st2, e2, k0, k1, g2, _⟩ := take_run h l (by omega) (by omega)
  obtain ⟨x, st3, e3, m3, g3⟩ := one_new [.int 0, .int m, .int k] g2.urn (by simp) (by simp)
  refine ⟨x, st3, ?_, ?_, g2.trans g3⟩
  · simp [mDef, endR, sRet, sRetN, sE, sSeq, sNx, sIf, sAsg, sExp, asNx, sPar2, sPar3, mVar, mC, mBin, bnd, lf, mB, maC, maN, Sm.ret, Sm.stuck, gNm, gTp, gsC, gsN, gSb, mtB, asB, mtAnd, mtOr, mtNot, mAnd, mOr, mNot, mIf, mCall, mTup, mLst, mDct, mNeg, mIsi, mChain, mSl, mNo, mPt, newL, bg1, bg2, bg3, bg4, bg5, bg6, bg7, bg8, bg9, bg10, bg11, bg12, bg13, bg14, bg15, bg16, bg17, bg18, bg19, bg20, e2, e3]
  · simp at m3
    rcases m3 with q | q | q
    · exact ⟨0, q, by omega, by omega⟩
    · exact ⟨m, q, by omega, by omega⟩
    · exact ⟨k, q, by omega, by omega⟩
def IsSt (v : IV) : Prop := (∃ p n, v = .tup [.str "end", p, n] ∧ Ix p 6 ∧ Ix n 5) ∨ (∃ nm p nm2 i n, v = .tup [.str "leave", nm, p, nm2, i, n] ∧ Nm nm ∧ Ix p 6 ∧ Nm nm2 ∧ Ix i 12 ∧ Ix n 5) ∨
  (∃ w nm i n, v = .tup [w, nm, i, n] ∧ (w = .str "set" ∨ w = .str "call") ∧ Nm nm ∧ Ix i 12 ∧ Ix n 5)
theorem step_drawn {st : Hs} {a : Nat} (h : Urn st a) : ∃ v st', runC f__law_step [.ref a] st = .ok v st' ∧ IsSt v ∧ Gr a st st' := by
  obtain ⟨nm, st1, e1, p1, g1⟩ := name_run' h
  obtain ⟨p, st2, e2, p0, pl, g2, _⟩ := take_run g1.urn 6 (by decide) (by decide)
  obtain ⟨i, st3, e3, p3, g3⟩ := one3 (r := [none, none, none, none, none]) (f := fun _ => Sm.ret true) g2.urn 11 12 (by decide) (by decide)
  obtain ⟨n, st4, e4, p4, g4⟩ := one3 (r := [some nm, some (.int p), some i, none, none]) (f := fun _ => Sm.ret true) g3.urn 4 5 (by decide) (by decide)
  obtain ⟨w, st5, e5, w0, w1, g5, _⟩ := take_run g4.urn 4 (by decide) (by decide)
  have G := (((g1.trans g2).trans g3).trans g4).trans g5
  rw [runC_ref]
  unfold f__law_step b__law_step
  generalize mCall f__law_one (maC (mVar 0) (maC (mLst (maC (mC (.int 0)) (maC (mC (.int 11)) (maC (mCall f__law_take (maC (mVar 0) (maC (mC (.int 12)) maN))) maN)))) maN)) = m3 at e3 ⊢
  generalize mCall f__law_one (maC (mVar 0) (maC (mLst (maC (mC (.int 0)) (maC (mC (.int 4)) (maC (mCall f__law_take (maC (mVar 0) (maC (mC (.int 5)) maN))) maN)))) maN)) = m4 at e4 ⊢
  by_cases q0 : w = 0
  · subst q0
    refine ⟨.tup [.str "end", .int p, n], st5, ?_, .inl ⟨_, _, rfl, ⟨p, rfl, p0, pl⟩, p4⟩, G⟩
    simp [mDef, endR, sRet, sRetN, sE, sSeq, sNx, sIf, sAsg, sExp, asNx, sPar2, sPar3, mVar, mC, mBin, bnd, lf, mB, maC, maN, Sm.ret, Sm.stuck, gNm, gTp, gsC, gsN, gSb, mtB, asB, mtAnd, mtOr, mtNot, mAnd, mOr, mNot, mIf, mCall, mTup, mLst, mDct, mNeg, mIsi, mChain, mSl, mNo, mPt, newL, bg1, bg2, bg3, bg4, bg5, bg6, bg7, bg8, bg9, bg10, bg11, bg12, bg13, bg14, bg15, bg16, bg17, bg18, bg19, bg20, e1, e2, e3, e4, e5, oEq, eqI_int]
  · by_cases q1 : w = 1
    · subst q1
      obtain ⟨nm2, st6, e6, p6, g6⟩ := name_run' g5.urn
      refine ⟨.tup [.str "leave", nm, .int p, nm2, i, n], st6, ?_, .inr (.inl ⟨_, _, _, _, _, rfl, p1, ⟨p, rfl, p0, pl⟩, p6, p3, p4⟩), G.trans g6⟩
      simp [mDef, endR, sRet, sRetN, sE, sSeq, sNx, sIf, sAsg, sExp, asNx, sPar2, sPar3, mVar, mC, mBin, bnd, lf, mB, maC, maN, Sm.ret, Sm.stuck, gNm, gTp, gsC, gsN, gSb, mtB, asB, mtAnd, mtOr, mtNot, mAnd, mOr, mNot, mIf, mCall, mTup, mLst, mDct, mNeg, mIsi, mChain, mSl, mNo, mPt, newL, bg1, bg2, bg3, bg4, bg5, bg6, bg7, bg8, bg9, bg10, bg11, bg12, bg13, bg14, bg15, bg16, bg17, bg18, bg19, bg20, e1, e2, e3, e4, e5, e6, oEq, eqI_int]
    · obtain ⟨x, st6, e6, m6, g6⟩ := one_new [.str "set", .str "call"] g5.urn (by simp) (by simp)
      refine ⟨.tup [x, nm, i, n], st6, ?_, .inr (.inr ⟨_, _, _, _, rfl, by simpa using m6, p1, p3, p4⟩), G.trans g6⟩
      simp [mDef, endR, sRet, sRetN, sE, sSeq, sNx, sIf, sAsg, sExp, asNx, sPar2, sPar3, mVar, mC, mBin, bnd, lf, mB, maC, maN, Sm.ret, Sm.stuck, gNm, gTp, gsC, gsN, gSb, mtB, asB, mtAnd, mtOr, mtNot, mAnd, mOr, mNot, mIf, mCall, mTup, mLst, mDct, mNeg, mIsi, mChain, mSl, mNo, mPt, newL, bg1, bg2, bg3, bg4, bg5, bg6, bg7, bg8, bg9, bg10, bg11, bg12, bg13, bg14, bg15, bg16, bg17, bg18, bg19, bg20, e1, e2, e3, e4, e5, e6, oEq, eqI_int, q0, q1]
theorem IsSt.kn {v : IV} (h : IsSt v) (st : Hs) : knI st v = true := by
  rcases h with ⟨p, n, rfl, h1, h2⟩ | ⟨nm, p, nm2, i, n, rfl, h1, h2, h3, h4, h5⟩ | ⟨w, nm, i, n, rfl, h0, h1, h2, h3⟩
  · simp [knI, knIs, h1.kn st, h2.kn st]
    decide +kernel
  · simp [knI, knIs, h1.kn st, h2.kn st, h3.kn st, h4.kn st, h5.kn st]
    decide +kernel
  · have hw : knI st w = true := by
      rcases h0 with rfl | rfl
      · simp [knI]
        decide +kernel
      · simp [knI]
        decide +kernel
    simp [knI, knIs, h1.kn st, h2.kn st, h3.kn st, hw]
theorem IsSt.is {v : IV} (h : IsSt v) : isStep v = true := by
  rcases h with ⟨p, n, rfl, h1, h2⟩ | ⟨nm, p, nm2, i, n, rfl, h1, h2, h3, h4, h5⟩ | ⟨w, nm, i, n, rfl, h0, h1, h2, h3⟩
  · simp [isStep, h1.is, h2.is, isStr]
  · simp [isStep, isPair, h1.is, h2.is, h3.is, h4.is, h5.is, isStr]
  · rcases h0 with rfl | rfl
    · simp [isStep, isPair, h1.is, h2.is, h3.is, isStr]
    · simp [isStep, isPair, h1.is, h2.is, h3.is, isStr]
end K01

set_option Elab.async false
set_option linter.all false
set_option maxRecDepth 100000
set_option maxHeartbeats 4000000
namespace K01
open Sm L2 PySem PySem.Spec
def Odd (st : Hs) (o : IV) : Prop := o ∈ [IV.non, .bl true, .int (-1), .int 12, .str "", .str "A", .str "abcdefghi", .tup [.int 0], .int 1000000000000000000000000000000] ∨ ∃ b, o = .ref b ∧ (st[b]?).isSome = true
inductive Sp (st : Hs) (xs : List IV) : IV → Prop where
  | lst (b : Nat) : (st[b]?).isSome = true → Sp st xs (.ref b)
  | del (j : Nat) : 1 ≤ j → j < xs.length → Sp st xs (.tup (xs.take j ++ xs.drop (j + 1)))
  | dbl (y : IV) : xs.getLast? = some y → Sp st xs (.tup (xs ++ [y]))
  | odd (j : Nat) (o : IV) : j < xs.length → Odd st o → Sp st xs (.tup (xs.take j ++ [o] ++ xs.drop (j + 1)))
theorem pow30 (st : Hs) : oPow (.int 10) (.int 30) st = some (.int 1000000000000000000000000000000, st) := by kernel_rfl
theorem some_lt {st : Hs} {b : Nat} (h : b < st.length) : (st[b]?).isSome = true := by simp [h]
theorem spoilt {st : Hs} {a : Nat} {xs : List IV} (h : Urn st a) (h2 : 2 ≤ xs.length) (h3 : xs.length ≤ 1000) : ∃ v st', runC f__law_spoilt [.ref a, .tup xs] st = .ok v st' ∧ Sp st' xs v ∧ Gr a st st' := by
  obtain ⟨w, st1, e1, w0, w1, g1, _⟩ := take_run h 4 (by decide) (by decide)
  obtain ⟨n, st2, e2, n0, n1, g2, _⟩ := take_run g1.urn (xs.length : Int) (by omega) (by omega)
  obtain ⟨m, rfl⟩ := Int.eq_ofNat_of_zero_le n0
  have hm : m < xs.length := by omega
  have G := g1.trans g2
  have lx : (xs.length : Int) < 1073741824 := by omega
  rw [runC_ref]
  unfold f__law_spoilt b__law_spoilt
  have big1 : ∀ j, (xs.take j).length + (xs.drop (j + 1)).length ≤ big := fun j => by
    have : big = 16777216 := rfl
    simp
    omega
  by_cases q0 : w = 0
  · subst q0
    refine ⟨.ref st2.length, st2 ++ [.lst xs], ?_, .lst _ (by simp), G.trans (Gr.app g2.urn)⟩
    simp [mDef, endR, sRet, sRetN, sE, sSeq, sNx, sIf, sAsg, sExp, asNx, sPar2, sPar3, mVar, mC, mBin, bnd, lf, mB, maC, maN, Sm.ret, Sm.stuck, gNm, gTp, gsC, gsN, gSb, mtB, asB, mtAnd, mtOr, mtNot, mAnd, mOr, mNot, mIf, mCall, mTup, mLst, mDct, mNeg, mIsi, mChain, mSl, mNo, mPt, newL, bg1, bg2, bg3, bg4, bg5, bg6, bg7, bg8, bg9, bg10, bg11, bg12, bg13, bg14, bg15, bg16, bg17, bg18, bg19, bg20, e1, bLen, seqOf, e2, oEq, eqI_int, bList]
  · by_cases q1 : w = 1
    · subst q1
      obtain ⟨j, ej⟩ : ∃ j, j = 1 + m % (xs.length - 1) := ⟨_, rfl⟩
      have jl : m % (xs.length - 1) < xs.length - 1 := Nat.mod_lt _ (by omega)
      have hj : 1 + (m : Int) % ((xs.length : Int) - 1) = (j : Int) := by
        rw [show ((xs.length : Int) - 1) = ((xs.length - 1 : Nat) : Int) by omega, ej]
        push_cast
        rfl
      have hp : 1 < (xs.length : Int) := by omega
      have c1 := cut_to xs j
      have c2 : cutI xs (some ((j : Int) + 1)) none = xs.drop (j + 1) := by
        have := cut_from xs (j + 1)
        push_cast at this
        exact this
      refine ⟨.tup (xs.take j ++ xs.drop (j + 1)), st2, ?_, .del j (by omega) (by omega), G⟩
      have b1 := big1 j
      simp [mDef, endR, sRet, sRetN, sE, sSeq, sNx, sIf, sAsg, sExp, asNx, sPar2, sPar3, mVar, mC, mBin, bnd, lf, mB, maC, maN, Sm.ret, Sm.stuck, gNm, gTp, gsC, gsN, gSb, mtB, asB, mtAnd, mtOr, mtNot, mAnd, mOr, mNot, mIf, mCall, mTup, mLst, mDct, mNeg, mIsi, mChain, mSl, mNo, mPt, newL, bg1, bg2, bg3, bg4, bg5, bg6, bg7, bg8, bg9, bg10, bg11, bg12, bg13, bg14, bg15, bg16, bg17, bg18, bg19, bg20, e1, bLen, seqOf, e2, oEq, eqI_int, oSub, oMod, hp, oAdd, hj, oSl, c1, c2, b1, - List.length_take, - List.length_drop]
    · by_cases q2 : w = 2
      · subst q2
        obtain ⟨y, hy⟩ : ∃ y, xs.getLast? = some y := by
          cases k : xs.getLast? with
          | none => rw [List.getLast?_eq_none_iff.mp k] at h2; simp at h2
          | some y => exact ⟨y, rfl⟩
        have b2 : xs.length + 1 ≤ big := by
          have : big = 16777216 := rfl
          omega
        refine ⟨.tup (xs ++ [y]), st2, ?_, .dbl y hy, G⟩
        simp [mDef, endR, sRet, sRetN, sE, sSeq, sNx, sIf, sAsg, sExp, asNx, sPar2, sPar3, mVar, mC, mBin, bnd, lf, mB, maC, maN, Sm.ret, Sm.stuck, gNm, gTp, gsC, gsN, gSb, mtB, asB, mtAnd, mtOr, mtNot, mAnd, mOr, mNot, mIf, mCall, mTup, mLst, mDct, mNeg, mIsi, mChain, mSl, mNo, mPt, newL, bg1, bg2, bg3, bg4, bg5, bg6, bg7, bg8, bg9, bg10, bg11, bg12, bg13, bg14, bg15, bg16, bg17, bg18, bg19, bg20, e1, bLen, seqOf, e2, oEq, eqI_int, oIx, at_m1, hy, oAdd, b2]
      · obtain ⟨o, st4, e4, m4, g4⟩ := one_new (st := st2 ++ [.lst []] ++ [.dct []]) [IV.non, .bl true, .int (-1), .int 12, .str "", .str "A", .str "abcdefghi", .tup [.int 0], .ref st2.length, .ref (st2.length + 1), .int 1000000000000000000000000000000] (Gr.app (Gr.app g2.urn).urn).urn (by simp) (by simp)
        have G4 : Gr a st st4 := (G.trans ((Gr.app g2.urn).trans (Gr.app (Gr.app g2.urn).urn))).trans g4
        have l4 : st2.length + 2 ≤ st4.length := by
          have := g4.le
          simp at this
          exact this
        have ho : Odd st4 o := by
          simp only [List.mem_cons, List.not_mem_nil, or_false] at m4
          rcases m4 with q | q | q | q | q | q | q | q | q | q | q <;> subst q
          · exact .inl (by simp)
          · exact .inl (by simp)
          · exact .inl (by simp)
          · exact .inl (by simp)
          · exact .inl (by simp)
          · exact .inl (by simp)
          · exact .inl (by simp)
          · exact .inl (by simp)
          · exact .inr ⟨_, rfl, some_lt (by omega)⟩
          · exact .inr ⟨_, rfl, some_lt (by omega)⟩
          · exact .inl (by simp)
        have c1 := cut_to xs m
        have c2 : cutI xs (some ((m : Int) + 1)) none = xs.drop (m + 1) := by
          have := cut_from xs (m + 1)
          push_cast at this
          exact this
        refine ⟨.tup (xs.take m ++ [o] ++ xs.drop (m + 1)), st4, ?_, .odd m o hm ho, G4⟩
        have b1 : (xs.take m).length + 1 ≤ big := by
          have : big = 16777216 := rfl
          simp
          omega
        have b3 : (xs.take m).length + 1 + (xs.drop (m + 1)).length ≤ big := by
          have : big = 16777216 := rfl
          simp
          omega
        simp only [List.append_assoc, List.cons_append, List.nil_append, List.length_append, List.length_cons, List.length_nil, Nat.zero_add] at e4
        simp [mDef, endR, sRet, sRetN, sE, sSeq, sNx, sIf, sAsg, sExp, asNx, sPar2, sPar3, mVar, mC, mBin, bnd, lf, mB, maC, maN, Sm.ret, Sm.stuck, gNm, gTp, gsC, gsN, gSb, mtB, asB, mtAnd, mtOr, mtNot, mAnd, mOr, mNot, mIf, mCall, mTup, mLst, mDct, mNeg, mIsi, mChain, mSl, mNo, mPt, newL, bg1, bg2, bg3, bg4, bg5, bg6, bg7, bg8, bg9, bg10, bg11, bg12, bg13, bg14, bg15, bg16, bg17, bg18, bg19, bg20, e1, bLen, seqOf, e2, oEq, eqI_int, q0, q1, q2, pow30, e4, oSl, c1, c2, oAdd, b1, b3, - List.length_take, - List.length_drop]
/-! ### what is spoilt is refused -/
theorem Odd.below {st : Hs} {o : IV} (h : Odd st o) {l : Int} (hl : l ≤ 12) : isBelow o l = false := by
  rcases h with h | ⟨b, rfl, _⟩
  · simp only [List.mem_cons, List.not_mem_nil, or_false] at h
    rcases h with q | q | q | q | q | q | q | q | q <;> subst q <;> simp [isBelow] <;> omega
  · rfl
theorem Odd.name {st : Hs} {o : IV} (h : Odd st o) : isName o = false := by
  rcases h with h | ⟨b, rfl, _⟩
  · simp only [List.mem_cons, List.not_mem_nil, or_false] at h
    rcases h with q | q | q | q | q | q | q | q | q <;> subst q <;> decide +kernel
  · rfl
theorem Odd.pair {st : Hs} {o : IV} (h : Odd st o) {l : Int} : isPair o l = false := by
  rcases h with h | ⟨b, rfl, _⟩
  · simp only [List.mem_cons, List.not_mem_nil, or_false] at h
    rcases h with q | q | q | q | q | q | q | q | q <;> subst q <;> rfl
  · rfl
theorem Odd.str {st : Hs} {o : IV} (h : Odd st o) : isStr "set" o = false ∧ isStr "call" o = false ∧ isStr "leave" o = false ∧ isStr "end" o = false := by
  rcases h with h | ⟨b, rfl, _⟩
  · simp only [List.mem_cons, List.not_mem_nil, or_false] at h
    rcases h with q | q | q | q | q | q | q | q | q <;> subst q <;> decide +kernel
  · exact ⟨rfl, rfl, rfl, rfl⟩
theorem Odd.kn {st : Hs} {o : IV} (h : Odd st o) : knI st o = true := by
  rcases h with h | ⟨b, rfl, h⟩
  · simp only [List.mem_cons, List.not_mem_nil, or_false] at h
    rcases h with q | q | q | q | q | q | q | q | q <;> subst q <;> simp [knI, knIs] <;> decide +kernel
  · exact h
theorem Sp.kn {st : Hs} {xs : List IV} {v : IV} (h : Sp st xs v) (k : ∀ x ∈ xs, knI st x = true) : knI st v = true := by
  cases h with
  | lst b h => exact h
  | del j h1 h2 => exact kns_all fun x hx => (List.mem_append.mp hx).elim (fun q => k x (List.mem_of_mem_take q)) (fun q => k x (List.mem_of_mem_drop q))
  | dbl y h => exact kns_all fun x hx => (List.mem_append.mp hx).elim (fun q => k x q) (fun q => by rw [List.mem_singleton.mp q]; exact k y (List.mem_of_getLast? h))
  | odd j o h1 h2 => exact kns_all fun x hx => (List.mem_append.mp hx).elim (fun q => (List.mem_append.mp q).elim (fun q => k x (List.mem_of_mem_take q)) (fun q => by rw [List.mem_singleton.mp q]; exact h2.kn)) (fun q => k x (List.mem_of_mem_drop q))
theorem Sp.pair {st : Hs} {n i v : IV} (h : Sp st [n, i] v) {l : Int} (hl : l ≤ 12) : isPair v l = false := by
  cases h with
  | lst b h => rfl
  | del j h1 h2 =>
    have e : j = 1 := by simp at h2; omega
    subst e
    rfl
  | dbl y h => rfl
  | odd j o h1 h2 =>
    rcases (show j = 0 ∨ j = 1 by simp at h1; omega) with rfl | rfl
    · simp [isPair, h2.name]
    · simp [isPair, h2.below hl]
theorem Sp.sit {st : Hs} {n v : IV} {fs : List IV} (h : Sp st [n, .tup fs] v) : isSit v = false := by
  cases h with
  | lst b h => rfl
  | del j h1 h2 =>
    have e : j = 1 := by simp at h2; omega
    subst e
    rfl
  | dbl y h => rfl
  | odd j o h1 h2 =>
    rcases (show j = 0 ∨ j = 1 by simp at h1; omega) with rfl | rfl
    · simp [isSit, h2.below]
    · rcases h2 with h | ⟨b, rfl, _⟩
      · simp only [List.mem_cons, List.not_mem_nil, or_false] at h
        rcases h with q | q | q | q | q | q | q | q | q <;> subst q <;> simp [isSit, isPair]
      · rfl
theorem Sp.step {st : Hs} {v : IV} {xs : List IV} (hx : IsSt (.tup xs)) (h : Sp st xs v) : isStep v = false := by
  rcases hx with ⟨p, n, e, h1, h2⟩ | ⟨nm, p, nm2, i, n, e, h1, h2, h3, h4, h5⟩ | ⟨w, nm, i, n, e, h0, h1, h2, h3⟩ <;> cases e
  · cases h with
    | lst b h => rfl
    | del j a b =>
      rcases (show j = 1 ∨ j = 2 by simp at b; omega) with rfl | rfl <;> simp [isStep]
    | dbl y h =>
      have e1 : isStr "set" (.str "end") = false := by decide +kernel
      have e2 : isStr "call" (.str "end") = false := by decide +kernel
      simp [isStep, e1, e2]
    | odd j o a b =>
      rcases (show j = 0 ∨ j = 1 ∨ j = 2 by simp at a; omega) with rfl | rfl | rfl
      · simp [isStep, b.str]
      · simp [isStep, b.below]
      · simp [isStep, b.below]
  · cases h with
    | lst b h => rfl
    | del j a b =>
      rcases (show j = 1 ∨ j = 2 ∨ j = 3 ∨ j = 4 ∨ j = 5 by simp at b; omega) with rfl | rfl | rfl | rfl | rfl <;> simp [isStep]
    | dbl y h => simp [isStep]
    | odd j o a b =>
      rcases (show j = 0 ∨ j = 1 ∨ j = 2 ∨ j = 3 ∨ j = 4 ∨ j = 5 by simp at a; omega) with rfl | rfl | rfl | rfl | rfl | rfl
      · simp [isStep, b.str]
      · simp [isStep, isPair, b.name]
      · simp [isStep, isPair, b.below]
      · simp [isStep, isPair, b.name]
      · simp [isStep, isPair, b.below]
      · simp [isStep, b.below]
  · have hw : isStr "end" w = false := by rcases h0 with rfl | rfl <;> decide +kernel
    cases h with
    | lst b h => rfl
    | del j a b =>
      rcases (show j = 1 ∨ j = 2 ∨ j = 3 by simp at b; omega) with rfl | rfl | rfl <;> simp [isStep, hw]
    | dbl y h => simp [isStep]
    | odd j o a b =>
      rcases (show j = 0 ∨ j = 1 ∨ j = 2 ∨ j = 3 by simp at a; omega) with rfl | rfl | rfl | rfl
      · simp [isStep, b.str]
      · simp [isStep, isPair, b.name]
      · simp [isStep, isPair, b.below]
      · simp [isStep, b.below]
end K01

set_option Elab.async false
set_option linter.all false
set_option maxRecDepth 100000
set_option maxHeartbeats 4000000
namespace K01
open Sm L2 PySem PySem.Spec
theorem small_shown : ∀ k : Fin 12, (PyData.shown (.int (k.val : Int))).length ≤ 13 ∧ PyData.weight (.int (k.val : Int)) ≤ 8 ∧ PyData.showable (.int (k.val : Int)) = true := by decide +kernel
theorem nm_data {v : IV} (h : Nm v) (st : Hs) (k : Nat) : ∃ d, toD st (k + 1) v = some d ∧ d.canLay0 = true ∧ d.depth = 0 ∧ d.weight ≤ 8 ∧ d.intsShort 13 = true ∧ d.showable = true ∧ d.hasDict = false := by
  obtain ⟨cs, rfl, h0, h1, h2⟩ := h
  refine ⟨.str ⟨cs.toArray⟩, rfl, ?_, rfl, ?_, rfl, rfl, rfl⟩
  · show PyData.strOk _ = true
    unfold PyData.strOk
    simp only [List.all_toArray, List.all_eq_true, decide_eq_true_eq]
    intro c hc
    have hL : ∀ c ∈ LET.cps.toList, c < 0x110000 := by decide +kernel
    exact hL c (h2 c hc)
  · show (cs.toArray).size ≤ 8
    simpa using h1
theorem ix_data {v : IV} (h : Ix v 12) (st : Hs) (k : Nat) : ∃ d, toD st (k + 1) v = some d ∧ d.canLay0 = true ∧ d.depth = 0 ∧ d.weight ≤ 8 ∧ d.intsShort 13 = true ∧ d.showable = true ∧ d.hasDict = false := by
  obtain ⟨i, rfl, h0, h1⟩ := h
  obtain ⟨n, rfl⟩ := Int.eq_ofNat_of_zero_le h0
  have := small_shown ⟨n, by omega⟩
  exact ⟨.int n, rfl, rfl, rfl, this.2.1, decide_eq_true this.1, this.2.2, rfl⟩
theorem all_data (st : Hs) (k : Nat) : ∀ vs : List IV, (∀ v ∈ vs, Nm v ∨ Ix v 12) → ∃ ds, toDs (toD st (k + 1)) vs = some ds ∧ PyData.canLayAll0 ds = true ∧ PyData.depthAll ds = 0 ∧ PyData.weightAll ds ≤ 9 * vs.length ∧ PyData.intsShortAll 13 ds = true ∧ PyData.showableAll ds = true ∧ PyData.hasDictAll ds = false
  | [], _ => ⟨[], rfl, rfl, rfl, Nat.zero_le _, rfl, rfl, rfl⟩
  | v :: vs, h => by
    obtain ⟨d, a1, a2, a3, a4, a5, a6, a7⟩ := (h v (by simp)).elim (fun h => nm_data h st k) (fun h => ix_data h st k)
    obtain ⟨ds, b1, b2, b3, b4, b5, b6, b7⟩ := all_data st k vs fun w hw => h w (by simp [hw])
    refine ⟨d :: ds, ?_, ?_, ?_, ?_, ?_, ?_, ?_⟩
    · simp [toDs, a1, b1]
    · show (d.canLay0 && PyData.canLayAll0 ds) = true
      rw [a2, b2]; rfl
    · show max d.depth (PyData.depthAll ds) = 0
      rw [a3, b3]; rfl
    · show d.weight + 1 + PyData.weightAll ds ≤ _
      rw [List.length_cons]
      omega
    · show (d.intsShort 13 && PyData.intsShortAll 13 ds) = true
      rw [a5, b5]; rfl
    · show (d.showable && PyData.showableAll ds) = true
      rw [a6, b6]; rfl
    · show (d.hasDict || PyData.hasDictAll ds) = false
      rw [a7, b7]; rfl
theorem repr_tup (st : Hs) (vs : List IV) (h : ∀ v ∈ vs, Nm v ∨ Ix v 12) (hl : vs.length ≤ 100) : ∃ z, bRepr [.tup vs] st = some (.str z, st) := by
  obtain ⟨ds, b1, b2, b3, b4, b5, b6, b7⟩ := all_data st 38 vs h
  have e1 : toD st 40 (.tup vs) = some (.tuple ds) := by
    show (toDs (toD st 39) vs).map PyData.tuple = _
    rw [b1]; rfl
  have lay : PyData.layable0 (.tuple ds) = true := by
    show (PyData.canLayAll0 ds && decide (PyData.depthAll ds + 1 ≤ 64) && decide (PyData.weightAll ds ≤ 2 ^ 20)) = true
    rw [b2, b3]
    have : PyData.weightAll ds ≤ 2 ^ 20 := Nat.le_trans b4 (by omega)
    simp [this]
  have sh := PyProof.Rows.shown_le13 lay (show PyData.intsShort 13 (.tuple ds) = true from b5)
  refine ⟨PyData.shown (.tuple ds), ?_⟩
  unfold bRepr
  dsimp only
  rw [e1, Option.bind_some, if_pos]
  have c2 : PyData.showable (.tuple ds) = true := b6
  have c3 : PyData.hasDict (.tuple ds) = false := b7
  have c4 : (PyData.shown (.tuple ds)).length ≤ big := Nat.le_trans sh (by decide)
  simp [isSeqD, c2, c3, c4]
/-- the spot of a situation -/
def spotL (n : IV) (fs : List IV) : List IV := match fs.getLast? with
  | some (.tup [nm, p]) => [nm, p, n]
  | _ => [n]
theorem spot_by_ok {st : Hs} {n : IV} {fs : List IV} (h : Fr fs) : f_spot_by [.tup [n, .tup fs]] st = .ok (.tup (spotL n fs)) st := by
  rcases h with rfl | ⟨ys, y, rfl, h1, nm, p, rfl, h2, h3⟩
  · simp [f_spot_by, b_spot_by, mDef, endR, sRet, sRetN, sE, sSeq, sNx, sIf, sAsg, sExp, asNx, sPar2, sPar3, mVar, mC, mBin, bnd, lf, mB, maC, maN, Sm.ret, Sm.stuck, gNm, gTp, gsC, gsN, gSb, mtB, asB, mtAnd, mtOr, mtNot, mAnd, mOr, mNot, mIf, mCall, mTup, mLst, mDct, mNeg, mIsi, mChain, mSl, mNo, mPt, newL, bg1, bg2, bg3, bg4, bg5, bg6, bg7, bg8, bg9, bg10, bg11, bg12, bg13, bg14, bg15, bg16, bg17, bg18, bg19, bg20, oEq, eqI_tup0, spotL]
  · simp [f_spot_by, b_spot_by, mDef, endR, sRet, sRetN, sE, sSeq, sNx, sIf, sAsg, sExp, asNx, sPar2, sPar3, mVar, mC, mBin, bnd, lf, mB, maC, maN, Sm.ret, Sm.stuck, gNm, gTp, gsC, gsN, gSb, mtB, asB, mtAnd, mtOr, mtNot, mAnd, mOr, mNot, mIf, mCall, mTup, mLst, mDct, mNeg, mIsi, mChain, mSl, mNo, mPt, newL, bg1, bg2, bg3, bg4, bg5, bg6, bg7, bg8, bg9, bg10, bg11, bg12, bg13, bg14, bg15, bg16, bg17, bg18, bg19, bg20, oEq, eqI_tup0, oIx, seqOf, at_m1, spotL]
theorem Fr.cl {fs : List IV} (h : Fr fs) : clIs fs = true := cls_all fun p hp => (h.all p hp).cl
theorem Fr.kn {fs : List IV} (h : Fr fs) (st : Hs) : knIs st fs = true := kns_all fun p hp => (h.all p hp).kn st
theorem Fr.sit {n : IV} {fs : List IV} (hn : Ix n 5) (h : Fr fs) : isSit (.tup [n, .tup fs]) = true := by
  rcases h with rfl | ⟨ys, y, rfl, h1, h2⟩
  · simp [isSit, hn.is]
  · simp only [isSit, hn.is (show (5:Int) ≤ 12 by decide), List.dropLast_concat, List.getLast?_append, List.getLast?_singleton, Bool.true_and]
    simp only [Option.some_or]
    rw [h2.is (by decide), Bool.and_true, List.all_eq_true]
    exact fun p hp => (h1 p hp).is (by decide)
theorem spotL_ok {n : IV} {fs : List IV} (hn : Ix n 5) (h : Fr fs) : ∀ v ∈ spotL n fs, Nm v ∨ Ix v 12 := by
  have hn' : Ix n 12 := by obtain ⟨i, rfl, a, b⟩ := hn; exact ⟨i, rfl, a, by omega⟩
  rcases h with rfl | ⟨ys, y, rfl, h1, nm, p, rfl, h2, h3⟩
  · simp [spotL, hn']
  · have h3' : Ix p 12 := by obtain ⟨i, rfl, a, b⟩ := h3; exact ⟨i, rfl, a, by omega⟩
    intro v hv
    simp [spotL] at hv
    rcases hv with rfl | rfl | rfl
    · exact .inl h2
    · exact .inr h3'
    · exact .inr hn'
theorem spotL_len {n : IV} {fs : List IV} : (spotL n fs).length ≤ 100 := by
  unfold spotL
  split <;> simp
theorem spot_run {st : Hs} {n : IV} {fs : List IV} (hn : Ix n 5) (h : Fr fs) (hl : fs.length ≤ big) : runC f_spot_of [.tup [n, .tup fs]] st = .ok (.tup (spotL n fs)) st := by
  have c : clIs [.tup [n, .tup fs]] = true := by simp [clIs, clI, hn.cl, h.cl]
  have cs : clI (.tup (spotL n fs)) = true := by
    show clIs _ = true
    exact cls_all fun v hv => (spotL_ok hn h v hv).elim (fun z => z.cl) (fun z => z.cl)
  obtain ⟨l, e⟩ := sit_run (st := []) (v := .tup [n, .tup fs]) (fun n' fs' e => by cases e; exact hl) (by simp [knI, knIs, hn.kn, h.kn])
  rw [h.sit hn] at e
  have e2 : runC f_spot_by [.tup [n, .tup fs]] ([] ++ l) = .ok (.tup (spotL n fs)) ([] ++ l) := runC_cl c cs ⟨_, spot_by_ok h⟩
  refine runC_cl c cs ⟨[] ++ l, ?_⟩
  simp only [List.nil_append] at e e2 ⊢
  simp [f_spot_of, b_spot_of, mDef, endR, sRet, sRetN, sE, sSeq, sNx, sIf, sAsg, sExp, asNx, sPar2, sPar3, mVar, mC, mBin, bnd, lf, mB, maC, maN, Sm.ret, Sm.stuck, gNm, gTp, gsC, gsN, gSb, mtB, asB, mtAnd, mtOr, mtNot, mAnd, mOr, mNot, mIf, mCall, mTup, mLst, mDct, mNeg, mIsi, mChain, mSl, mNo, mPt, newL, bg1, bg2, bg3, bg4, bg5, bg6, bg7, bg8, bg9, bg10, bg11, bg12, bg13, bg14, bg15, bg16, bg17, bg18, bg19, bg20, e, e2]
end K01

set_option Elab.async false
set_option linter.all false
set_option maxRecDepth 100000
set_option maxHeartbeats 4000000
namespace K01
open Sm L2 PySem PySem.Spec
/-- a bool that is given back -/
def okB : RS → Option Bool
  | .rt (.bl b) _ => some b
  | _ => none
theorem okB_true {x : RS} (h : okB x = some true) : ∃ st, endR x = .ok (.bl true) st := by
  cases x with
  | rt v st =>
    cases v with
    | bl b =>
      cases h
      exact ⟨st, rfl⟩
    | _ => cases h
  | _ => cases h
/-! ### the draw is judged right -/
theorem sit_cl {st : Hs} {v : IV} (hz : ∀ n fs, v = .tup [n, .tup fs] → fs.length ≤ big) (c : clI v = true) (h : knI st v = true) : runC f_is_situation [v] st = .ok (.bl (isSit v)) st := by
  obtain ⟨l, e⟩ := sit_ok (st := []) hz (kn_cl (st := st) v c h)
  exact runC_cl (by simp [clIs, c]) rfl ⟨_, e⟩
theorem step_cl {st : Hs} {v : IV} (c : clI v = true) (h : knI st v = true) : runC f_is_step [v] st = .ok (.bl (isStep v)) st := by
  obtain ⟨l, e⟩ := step_ok (st := []) (kn_cl (st := st) v c h)
  exact runC_cl (by simp [clIs, c]) rfl ⟨_, e⟩
theorem step_run {st : Hs} {v : IV} (h : knI st v = true) : ∃ l, runC f_is_step [v] st = .ok (.bl (isStep v)) (st ++ l) :=
  run_of (fun st k => step_ok (kns_mem k (by simp))) (by simp [knIs, h])
theorem IsSt.cl {v : IV} (h : IsSt v) : clI v = true := by
  rcases h with ⟨p, n, rfl, h1, h2⟩ | ⟨nm, p, nm2, i, n, rfl, h1, h2, h3, h4, h5⟩ | ⟨w, nm, i, n, rfl, h0, h1, h2, h3⟩
  · simp [clI, clIs, h1.cl, h2.cl]
  · simp [clI, clIs, h1.cl, h2.cl, h3.cl, h4.cl, h5.cl]
  · rcases h0 with rfl | rfl <;> simp [clI, clIs, h1.cl, h2.cl, h3.cl]
theorem IsSt.tup {v : IV} (h : IsSt v) : ∃ xs, v = .tup xs ∧ 2 ≤ xs.length ∧ xs.length ≤ 1000 := by
  rcases h with ⟨p, n, rfl, h1, h2⟩ | ⟨nm, p, nm2, i, n, rfl, h1, h2, h3, h4, h5⟩ | ⟨w, nm, i, n, rfl, h0, h1, h2, h3⟩
  · exact ⟨_, rfl, by simp, by simp⟩
  · exact ⟨_, rfl, by simp, by simp⟩
  · exact ⟨_, rfl, by simp, by simp⟩
theorem lk {st l : Hs} {b : Nat} {o : IO} (h : st[b]? = some o) : (st ++ l)[b]? = some o := by
  rw [List.getElem?_append_left (List.getElem?_eq_some_iff.mp h).1]
  exact h
/-- frames != [] -/
theorem ne_new {st : Hs} {b : Nat} {fs : List IV} (h : st[b]? = some (.lst fs)) : oNe (.ref b) (.ref st.length) (st ++ [.lst []]) = some (.bl (!(fs.length == 0)), st ++ [.lst []]) := by
  unfold oNe
  rw [eqI_lst0 (xs := fs) (by rw [lk h]; rfl) (by simp [ioL])]
  rfl
abbrev ev (a b : Nat) (n sit st due : IV) : Sm.Env := [some (.ref a), some n, some (.ref b), some sit, some st, some due, none, none, none]
theorem right_a {st : Hs} {a : Nat} (h : Urn st a) : ∃ n b fs s st', sSeq b__law_right_0 (sSeq b__law_right_1 b__law_right_2) [some (.ref a), none, none, none, none, none, none, none, none] st = .nx (ev a b n (.tup [n, .tup fs]) s (.tup (spotL n fs))) st' ∧
    Ix n 5 ∧ st'[b]? = some (.lst fs) ∧ Fr fs ∧ fs.length ≤ 4 ∧ b ≠ a ∧ IsSt s ∧ Urn st' a := by
  obtain ⟨n, b, fs, st1, e1, hn, hb, hf, hl, nb, g1⟩ := sit_drawn h
  obtain ⟨s, st2, e2, hs, g2⟩ := step_drawn g1.urn
  have hb2 := g2.lst hb nb
  refine ⟨n, b, fs, s, st2 ++ [.lst []], ?_, hn, lk hb2, hf, hl, nb, hs, (Gr.app g2.urn).urn⟩
  have c1 := ne_new hb2
  have hb3 : (st2 ++ [IO.lst []])[b]? = some (.lst fs) := lk hb2
  rcases hf with rfl | ⟨ys, y, rfl, h1, nm, p, rfl, h2, h3⟩
  · simp [b__law_right_0, b__law_right_1, b__law_right_2, mDef, endR, sRet, sRetN, sE, sSeq, sNx, sIf, sAsg, sExp, asNx, sPar2, sPar3, mVar, mC, mBin, bnd, lf, mB, maC, maN, Sm.ret, Sm.stuck, gNm, gTp, gsC, gsN, gSb, mtB, asB, mtAnd, mtOr, mtNot, mAnd, mOr, mNot, mIf, mCall, mTup, mLst, mDct, mNeg, mIsi, mChain, mSl, mNo, mPt, newL, bg1, bg2, bg3, bg4, bg5, bg6, bg7, bg8, bg9, bg10, bg11, bg12, bg13, bg14, bg15, bg16, bg17, bg18, bg19, bg20, e1, e2, bTuple, seqOf, lstOf, ioL, hb, c1, spotL]
  · simp [b__law_right_0, b__law_right_1, b__law_right_2, mDef, endR, sRet, sRetN, sE, sSeq, sNx, sIf, sAsg, sExp, asNx, sPar2, sPar3, mVar, mC, mBin, bnd, lf, mB, maC, maN, Sm.ret, Sm.stuck, gNm, gTp, gsC, gsN, gSb, mtB, asB, mtAnd, mtOr, mtNot, mAnd, mOr, mNot, mIf, mCall, mTup, mLst, mDct, mNeg, mIsi, mChain, mSl, mNo, mPt, newL, bg1, bg2, bg3, bg4, bg5, bg6, bg7, bg8, bg9, bg10, bg11, bg12, bg13, bg14, bg15, bg16, bg17, bg18, bg19, bg20, e1, e2, bTuple, seqOf, lstOf, ioL, hb, c1, spotL, oIx, hb3, at_m1, oAdd]
theorem right_b {st : Hs} {a b : Nat} {n s : IV} {fs : List IV} (hn : Ix n 5) (hf : Fr fs) (hl : fs.length ≤ 4) (hs : IsSt s) : b__law_right_3 (ev a b n (.tup [n, .tup fs]) s (.tup (spotL n fs))) st = .nx (ev a b n (.tup [n, .tup fs]) s (.tup (spotL n fs))) st := by
  have hz : fs.length ≤ big := Nat.le_trans hl (by decide)
  have e1 := sit_cl (st := st) (v := .tup [n, .tup fs]) (fun n' fs' e => by cases e; exact hz) (by simp [clI, clIs, hn.cl, hf.cl]) (by simp [knI, knIs, hn.kn, hf.kn])
  rw [hf.sit hn] at e1
  have e2 := spot_run (st := st) hn hf hz
  obtain ⟨z, e3⟩ := repr_tup st (spotL n fs) (spotL_ok hn hf) spotL_len
  have e4 := step_cl (st := st) hs.cl (hs.kn st)
  rw [hs.is] at e4
  simp [b__law_right_3, mDef, endR, sRet, sRetN, sE, sSeq, sNx, sIf, sAsg, sExp, asNx, sPar2, sPar3, mVar, mC, mBin, bnd, lf, mB, maC, maN, Sm.ret, Sm.stuck, gNm, gTp, gsC, gsN, gSb, mtB, asB, mtAnd, mtOr, mtNot, mAnd, mOr, mNot, mIf, mCall, mTup, mLst, mDct, mNeg, mIsi, mChain, mSl, mNo, mPt, newL, bg1, bg2, bg3, bg4, bg5, bg6, bg7, bg8, bg9, bg10, bg11, bg12, bg13, bg14, bg15, bg16, bg17, bg18, bg19, bg20, e1, e2, e3, e4, oNe, eqI_str]
theorem Sp.sitz {st : Hs} {n v : IV} {fs : List IV} (h : Sp st [n, .tup fs] v) (hl : fs.length ≤ 4) : ∀ n' fs', v = .tup [n', .tup fs'] → fs'.length ≤ big := by
  intro n' fs' e
  have hb : (4 : Nat) ≤ big := by decide
  cases h with
  | lst b h => cases e
  | del j h1 h2 =>
    have ej : j = 1 := by simp at h2; omega
    subst ej
    cases e
  | dbl y h => cases e
  | odd j o h1 h2 =>
    rcases (show j = 0 ∨ j = 1 by simp at h1; omega) with rfl | rfl
    · cases e
      omega
    · cases e
      rcases h2 with h | ⟨b, z, _⟩
      · simp only [List.mem_cons, List.not_mem_nil, or_false] at h
        rcases h with q | q | q | q | q | q | q | q | q <;> cases q
        decide
      · cases z
theorem right_c {st : Hs} {a b : Nat} {n s due : IV} {fs : List IV} (h : Urn st a) (hb : st[b]? = some (.lst fs)) (nb : b ≠ a) (hn : Ix n 5) (hf : Fr fs) (hl : fs.length ≤ 4) (hs : IsSt s) :
    ∃ st', b__law_right_4 (ev a b n (.tup [n, .tup fs]) s due) st = .nx (ev a b n (.tup [n, .tup fs]) s due) st' ∧ Urn st' a ∧ st'[b]? = some (.lst fs) := by
  obtain ⟨xs, rfl, x2, x3⟩ := hs.tup
  obtain ⟨v, st1, e1, p1, g1⟩ := spoilt h x2 x3
  obtain ⟨l1, e2⟩ := step_run (st := st1) (v := v) (p1.kn fun x hx => kns_mem (hs.kn st1) hx)
  rw [p1.step hs] at e2
  have g2 : Gr a st (st1 ++ l1) := g1.trans (Gr.app g1.urn)
  obtain ⟨w, st3, e3, p3, g3⟩ := spoilt (xs := [n, .tup fs]) g2.urn (by simp) (by simp)
  obtain ⟨l2, e4⟩ := sit_run (st := st3) (v := w) (p3.sitz hl) (p3.kn fun x hx => by
    simp at hx
    rcases hx with rfl | rfl
    · exact hn.kn _
    · exact hf.kn _)
  rw [p3.sit] at e4
  have g4 : Gr a st (st3 ++ l2) := (g2.trans g3).trans (Gr.app g3.urn)
  refine ⟨st3 ++ l2, ?_, g4.urn, g4.lst hb nb⟩
  simp [b__law_right_4, mDef, endR, sRet, sRetN, sE, sSeq, sNx, sIf, sAsg, sExp, asNx, sPar2, sPar3, mVar, mC, mBin, bnd, lf, mB, maC, maN, Sm.ret, Sm.stuck, gNm, gTp, gsC, gsN, gSb, mtB, asB, mtAnd, mtOr, mtNot, mAnd, mOr, mNot, mIf, mCall, mTup, mLst, mDct, mNeg, mIsi, mChain, mSl, mNo, mPt, newL, bg1, bg2, bg3, bg4, bg5, bg6, bg7, bg8, bg9, bg10, bg11, bg12, bg13, bg14, bg15, bg16, bg17, bg18, bg19, bg20, e1, e2, e3, e4]
theorem notSit {n v : IV} {L : List IV} (hv : v ∈ L) (h1 : isPair v 12 = false) (h2 : isPair v 6 = false) : isSit (.tup [n, .tup L]) = false := by
  obtain ⟨ys, y, rfl⟩ : ∃ ys y, L = ys ++ [y] := ⟨L.dropLast, L.getLast (List.ne_nil_of_mem hv), (List.dropLast_concat_getLast _).symm⟩
  simp only [isSit, List.dropLast_concat, List.getLast?_append, List.getLast?_singleton, Option.some_or]
  rcases List.mem_append.mp hv with q | q
  · have : ys.all (fun f => isPair f 12) = false := by
      rw [List.all_eq_false]
      exact ⟨v, q, by simp [h1]⟩
    rw [this]
    simp
  · rw [← List.mem_singleton.mp q, h2]
    simp
theorem right_d {st : Hs} {a b : Nat} {n sit s due : IV} {fs : List IV} (h : Urn st a) (hb : st[b]? = some (.lst fs)) (nb : b ≠ a) (hn : Ix n 5) (hf : Fr fs) (hl : fs.length ≤ 4) :
    ∃ e6 e7 st', b__law_right_5 (ev a b n sit s due) st = .nx [some (.ref a), some n, some (.ref b), some sit, some s, some due, e6, e7, none] st' ∧ Urn st' a ∧ st'[b]? = some (.lst fs) := by
  have c1 := ne_new hb
  by_cases q : fs = []
  · subst q
    refine ⟨none, none, st ++ [.lst []], ?_, (Gr.app h).urn, lk hb⟩
    simp [b__law_right_5, mDef, endR, sRet, sRetN, sE, sSeq, sNx, sIf, sAsg, sExp, asNx, sPar2, sPar3, mVar, mC, mBin, bnd, lf, mB, maC, maN, Sm.ret, Sm.stuck, gNm, gTp, gsC, gsN, gSb, mtB, asB, mtAnd, mtOr, mtNot, mAnd, mOr, mNot, mIf, mCall, mTup, mLst, mDct, mNeg, mIsi, mChain, mSl, mNo, mPt, newL, bg1, bg2, bg3, bg4, bg5, bg6, bg7, bg8, bg9, bg10, bg11, bg12, bg13, bg14, bg15, bg16, bg17, bg18, bg19, bg20, c1]
  · have hp : 0 < fs.length := List.length_pos_iff.mpr q
    have u0 : Urn (st ++ [.lst []]) a := (Gr.app h).urn
    have hb0 : (st ++ [IO.lst []])[b]? = some (.lst fs) := lk hb
    obtain ⟨k, st1, e1, k0, k1, g1, _⟩ := take_run u0 (fs.length : Int) (by omega) (by omega)
    obtain ⟨m, rfl⟩ := Int.eq_ofNat_of_zero_le k0
    have hm : m < fs.length := by omega
    have hb1 := g1.lst hb0 nb
    obtain ⟨nm, ix, ep, hnm, hix⟩ := hf.all _ (List.getElem_mem hm)
    obtain ⟨v, st2, e2, p2, g2⟩ := spoilt (xs := [nm, ix]) g1.urn (by simp) (by simp)
    have hb2 := g2.lst hb1 nb
    have hbl : ∀ l, (st2 ++ l)[b]? = some (.lst fs) := fun l => lk hb2
    have ep2 : fs[m]? = some (.tup [nm, ix]) := by rw [List.getElem?_eq_getElem hm, ep]
    have kv : knI st2 v = true := p2.kn fun x hx => by
      simp at hx
      rcases hx with rfl | rfl
      · exact hnm.kn _
      · exact hix.kn _
    have c2 := cut_to fs m
    have c3 : cutI fs (some ((m : Int) + 1)) none = fs.drop (m + 1) := by
      have := cut_from fs (m + 1)
      push_cast at this
      exact this
    obtain ⟨L, eL⟩ : ∃ L, L = fs.take m ++ (v :: fs.drop (m + 1)) := ⟨_, rfl⟩
    have lL : L.length ≤ big := by
      have : big = 16777216 := rfl
      rw [eL]
      simp
      omega
    have b1 : min m fs.length + 1 ≤ big := by
      have : big = 16777216 := rfl
      omega
    have b2 : min m fs.length + 1 + (fs.length - (m + 1)) ≤ big := by
      have : big = 16777216 := rfl
      omega
    obtain ⟨l3, e3⟩ := sit_run (st := st2 ++ [.lst (fs.take m), .lst [v], .lst (fs.take m ++ [v]), .lst (fs.drop (m + 1)), .lst L]) (v := .tup [n, .tup L]) (fun n' fs' e => by cases e; exact lL) (by
      have kL : knIs (st2 ++ [.lst (fs.take m), .lst [v], .lst (fs.take m ++ [v]), .lst (fs.drop (m + 1)), .lst L]) L = true := kns_all fun x hx => by
        rw [eL] at hx
        rcases List.mem_append.mp hx with z | z
        · exact (hf.all x (List.mem_of_mem_take z)).kn _
        · rcases List.mem_cons.mp z with z | z
          · rw [z]; exact kn_app kv
          · exact (hf.all x (List.mem_of_mem_drop z)).kn _
      simp [knI, knIs, hn.kn, kL])
    have hv : v ∈ L := by rw [eL]; simp
    rw [notSit hv (p2.pair (by decide)) (p2.pair (by decide))] at e3
    refine ⟨some (.int m), some v, st2 ++ [.lst (fs.take m), .lst [v], .lst (fs.take m ++ [v]), .lst (fs.drop (m + 1)), .lst L] ++ l3, ?_, ((Gr.app g2.urn).trans (Gr.app (Gr.app g2.urn).urn)).urn, by rw [List.append_assoc]; exact hbl _⟩
    rw [eL] at e3 ⊢
    simp [b__law_right_5, mDef, endR, sRet, sRetN, sE, sSeq, sNx, sIf, sAsg, sExp, asNx, sPar2, sPar3, mVar, mC, mBin, bnd, lf, mB, maC, maN, Sm.ret, Sm.stuck, gNm, gTp, gsC, gsN, gSb, mtB, asB, mtAnd, mtOr, mtNot, mAnd, mOr, mNot, mIf, mCall, mTup, mLst, mDct, mNeg, mIsi, mChain, mSl, mNo, mPt, newL, bg1, bg2, bg3, bg4, bg5, bg6, bg7, bg8, bg9, bg10, bg11, bg12, bg13, bg14, bg15, bg16, bg17, bg18, bg19, bg20, c1, q, bLen, seqOf, lstOf, ioL, hb0, e1, oIx, hb1, at_nat, ep2, e2, oSl, hb2, hbl, c2, c3, oAdd, b1, b2, bTuple, e3]
theorem right_e {st : Hs} {a b : Nat} {n sit s due : IV} {e6 e7 : Option IV} {fs : List IV} (h : Urn st a) (hb : st[b]? = some (.lst fs)) (nb : b ≠ a) (hn : Ix n 5) (hf : Fr fs) (hl : fs.length ≤ 4) (es : sit = .tup [n, .tup fs]) :
    ∃ v, okB (sSeq b__law_right_6 b__law_right_7 [some (.ref a), some n, some (.ref b), some sit, some s, some due, e6, e7, none] st) = some v ∧ v = true := by
  obtain ⟨nm, st1, e1, p1, g1⟩ := name_run' h
  obtain ⟨x, st2, e2, m2, g2⟩ := one_new [.int 6, .int 11] g1.urn (by simp) (by simp)
  have hb2 := (g1.trans g2).lst hb nb
  have hbl : ∀ l, (st2 ++ l)[b]? = some (.lst fs) := fun l => lk hb2
  obtain ⟨L, eL⟩ : ∃ L, L = fs ++ [IV.tup [nm, x]] := ⟨_, rfl⟩
  have b1 : fs.length + 1 ≤ big := Nat.le_trans (Nat.add_le_add_right hl 1) (by decide)
  have hx : clI x = true ∧ (∀ st, knI st x = true) ∧ isBelow x 6 = false := by
    simp at m2
    rcases m2 with rfl | rfl <;> exact ⟨rfl, fun _ => rfl, by decide +kernel⟩
  have cL : clIs L = true := cls_all fun y hy => by
    rw [eL] at hy
    rcases List.mem_append.mp hy with z | z
    · exact (hf.all y z).cl
    · rw [List.mem_singleton.mp z]; simp [clI, clIs, p1.cl, hx.1]
  have kL : ∀ st, knIs st L = true := fun st => kns_all fun y hy => by
    rw [eL] at hy
    rcases List.mem_append.mp hy with z | z
    · exact (hf.all y z).kn st
    · rw [List.mem_singleton.mp z]; simp [knI, knIs, p1.kn, hx.2.1]
  have lL : L.length ≤ big := by rw [eL]; simpa using b1
  have f1 : isSit (.tup [n, .tup L]) = false := by
    rw [eL]
    simp [isSit, isPair, hx.2.2]
  obtain ⟨st3, es3⟩ : ∃ st3, st3 = st2 ++ [.lst [.tup [nm, x]], .lst L] := ⟨_, rfl⟩
  have e3 := sit_cl (st := st3) (v := .tup [n, .tup L]) (fun n' fs' e => by cases e; exact lL) (by simp [clI, clIs, hn.cl, cL]) (by simp [knI, knIs, hn.kn, kL])
  rw [f1] at e3
  have kb : knI st3 (.ref b) = true := by
    show (st3[b]?).isSome = true
    rw [es3, hbl]
    rfl
  obtain ⟨l4, e4⟩ := sit_run (st := st3) (v := .tup [n, .ref b]) (fun n' fs' e => by cases e) (by simp only [knI, knIs, hn.kn, Bool.true_and, Bool.and_true]; exact kb)
  have f2 : isSit (.tup [n, .ref b]) = false := rfl
  rw [f2] at e4
  have e5 := step_cl (st := st3 ++ l4) (v := sit) (by rw [es]; simp [clI, clIs, hn.cl, hf.cl]) (by rw [es]; simp [knI, knIs, hn.kn, hf.kn])
  have f3 : isStep sit = false := by
    rw [es]
    simp [isStep, isBelow]
  rw [f3] at e5
  refine ⟨true, ?_, rfl⟩
  rw [es3, eL] at e3 e4 e5
  rw [List.append_assoc] at e4 e5
  simp only [List.cons_append, List.nil_append] at e4 e5
  simp [b__law_right_6, b__law_right_7, mDef, endR, sRet, sRetN, sE, sSeq, sNx, sIf, sAsg, sExp, asNx, sPar2, sPar3, mVar, mC, mBin, bnd, lf, mB, maC, maN, Sm.ret, Sm.stuck, gNm, gTp, gsC, gsN, gSb, mtB, asB, mtAnd, mtOr, mtNot, mAnd, mOr, mNot, mIf, mCall, mTup, mLst, mDct, mNeg, mIsi, mChain, mSl, mNo, mPt, newL, bg1, bg2, bg3, bg4, bg5, bg6, bg7, bg8, bg9, bg10, bg11, bg12, bg13, bg14, bg15, bg16, bg17, bg18, bg19, bg20, e1, e2, oAdd, ioL, hbl, b1, bTuple, seqOf, lstOf, e3, e4, e5, okB]
theorem right_ok {st : Hs} {a : Nat} (h : Urn st a) : ∃ st', runC f__law_right [.ref a] st = .ok (.bl true) st' := by
  obtain ⟨n, b, fs, s, st1, e1, hn, hb, hf, hl, nb, hs, u1⟩ := right_a h
  have e2 := right_b (st := st1) (a := a) (b := b) hn hf hl hs
  obtain ⟨st2, e3, u2, hb2⟩ := right_c (due := .tup (spotL n fs)) u1 hb nb hn hf hl hs
  obtain ⟨e6, e7, st3, e4, u3, hb3⟩ := right_d (sit := .tup [n, .tup fs]) (s := s) (due := .tup (spotL n fs)) u2 hb2 nb hn hf hl
  obtain ⟨v, e5, rfl⟩ := right_e (sit := .tup [n, .tup fs]) (s := s) (due := .tup (spotL n fs)) (e6 := e6) (e7 := e7) u3 hb3 nb hn hf hl rfl
  rw [runC_ref]
  have e0 : b__law_right [some (.ref a), none, none, none, none, none, none, none, none] st = sSeq b__law_right_6 b__law_right_7 [some (.ref a), some n, some (.ref b), some (.tup [n, .tup fs]), some s, some (.tup (spotL n fs)), e6, e7, none] st3 := by
    have e1' : ∀ r, sSeq b__law_right_0 (sSeq b__law_right_1 (sSeq b__law_right_2 r)) [some (.ref a), none, none, none, none, none, none, none, none] st = r (ev a b n (.tup [n, .tup fs]) s (.tup (spotL n fs))) st1 := fun r => by
      unfold sSeq at e1 ⊢
      cases q0 : b__law_right_0 [some (.ref a), none, none, none, none, none, none, none, none] st with
      | nx e s0 =>
        rw [q0] at e1
        dsimp only at e1 ⊢
        cases q1 : b__law_right_1 e s0 with
        | nx e' s1 =>
          rw [q1] at e1
          dsimp only at e1 ⊢
          rw [e1]
        | _ => rw [q1] at e1; cases e1
      | _ => rw [q0] at e1; cases e1
    unfold b__law_right
    rw [e1']
    show sSeq b__law_right_3 _ _ _ = _
    unfold sSeq
    rw [e2]
    dsimp only
    rw [e3]
    dsimp only
    rw [e4]
  unfold f__law_right mDef
  show ∃ st', endR (b__law_right [some (.ref a), none, none, none, none, none, none, none, none] st) = _
  rw [e0]
  exact okB_true e5
end K01

set_option Elab.async false
set_option linter.all false
set_option maxRecDepth 100000
set_option maxHeartbeats 4000000
namespace K01
open Sm L2 PySem PySem.Spec
/-! ### the law -/
theorem pow60 (st : Hs) : oPow (.int 10) (.int 60) st = some (.int (10 ^ 60), st) := by kernel_rfl
theorem pow540 (st : Hs) : oPow (.int (10 ^ 60)) (.int 9) st = some (.int (10 ^ 540), st) := by kernel_rfl
theorem pow17 (st : Hs) : oPow (.int 10) (.int 17) st = some (.int 100000000000000000, st) := by kernel_rfl
theorem cls_ints : ∀ ns : List Int, clIs (ns.map IV.int) = true
  | [] => rfl
  | n :: ns => by simp [clIs, clI, cls_ints ns]
theorem urn_ok {ns : List Int} {i : Int} (h0 : 0 ≤ i) (st : Hs) : ∃ o, f__law_urn [.rl (ns.map .int), .int i] st = .ok (.ref st.length) (st ++ [o]) ∧ UrnO o := by
  obtain ⟨A, hA⟩ : ∃ A : Int, A = 10 ^ 60 := ⟨_, rfl⟩
  obtain ⟨B, hB⟩ : ∃ B : Int, B = 10 ^ 540 := ⟨_, rfl⟩
  have p1 : ∀ st, oPow (.int 10) (.int 60) st = some (.int A, st) := fun st => by rw [hA]; exact pow60 st
  have p2 : ∀ st, oPow (.int A) (.int 9) st = some (.int B, st) := fun st => by rw [hA, hB]; exact pow540 st
  have hB0 : 0 < B := by rw [hB]; decide +kernel
  have cell : ∃ c : Int, mIf (mtB (mBin oLt (mVar 1) (mB bLen (maC (mVar 0) maN)))) (mBin oIx (mVar 0) (mVar 1)) (mBin oAdd (mBin oMul (mC (.int 83)) (mVar 1)) (mC (.int 37))) [some (.rl (ns.map .int)), some (.int i), none, none, none] st = .ok (.int c) st := by
    by_cases q : i < (ns.length : Int)
    · have hi : i.toNat < ns.length := by omega
      refine ⟨ns[i.toNat], ?_⟩
      simp [mDef, endR, sRet, sRetN, sE, sSeq, sNx, sIf, sAsg, sExp, asNx, sPar2, sPar3, mVar, mC, mBin, bnd, lf, mB, maC, maN, Sm.ret, Sm.stuck, gNm, gTp, gsC, gsN, gSb, mtB, asB, mtAnd, mtOr, mtNot, mAnd, mOr, mNot, mIf, mCall, mTup, mLst, mDct, mNeg, mIsi, mChain, mSl, mNo, mPt, newL, bg1, bg2, bg3, bg4, bg5, bg6, bg7, bg8, bg9, bg10, bg11, bg12, bg13, bg14, bg15, bg16, bg17, bg18, bg19, bg20, bLen, seqOf, lstOf, oLt, q, oIx, at_int _ h0, hi]
    · refine ⟨83 * i + 37, ?_⟩
      simp [mDef, endR, sRet, sRetN, sE, sSeq, sNx, sIf, sAsg, sExp, asNx, sPar2, sPar3, mVar, mC, mBin, bnd, lf, mB, maC, maN, Sm.ret, Sm.stuck, gNm, gTp, gsC, gsN, gSb, mtB, asB, mtAnd, mtOr, mtNot, mAnd, mOr, mNot, mIf, mCall, mTup, mLst, mDct, mNeg, mIsi, mChain, mSl, mNo, mPt, newL, bg1, bg2, bg3, bg4, bg5, bg6, bg7, bg8, bg9, bg10, bg11, bg12, bg13, bg14, bg15, bg16, bg17, bg18, bg19, bg20, bLen, seqOf, lstOf, oLt, q, oMul, oAdd]
  obtain ⟨c, ec⟩ := cell
  obtain ⟨G, hG⟩ : ∃ G : Int, G = (if c < 0 then -c else c) % B := ⟨_, rfl⟩
  refine ⟨.lst [.int (if G - 100000000000000000 > 0 then G - 100000000000000000 else 0), .int ((G * 104651 + 15331 * i + 43 * (if decide (c < 0) = true then 1 else 0) + 19) % 2305843009213693921), .int 0], ?_, ⟨_, _, 0, rfl⟩⟩
  unfold f__law_urn b__law_urn
  generalize mIf (mtB (mBin oLt (mVar 1) (mB bLen (maC (mVar 0) maN)))) (mBin oIx (mVar 0) (mVar 1)) (mBin oAdd (mBin oMul (mC (.int 83)) (mVar 1)) (mC (.int 37))) = mm at ec ⊢
  simp [mDef, endR, sRet, sRetN, sE, sSeq, sNx, sIf, sAsg, sExp, asNx, sPar2, sPar3, mVar, mC, mBin, bnd, lf, mB, maC, maN, Sm.ret, Sm.stuck, gNm, gTp, gsC, gsN, gSb, mtB, asB, mtAnd, mtOr, mtNot, mAnd, mOr, mNot, mIf, mCall, mTup, mLst, mDct, mNeg, mIsi, mChain, mSl, mNo, mPt, newL, bg1, bg2, bg3, bg4, bg5, bg6, bg7, bg8, bg9, bg10, bg11, bg12, bg13, bg14, bg15, bg16, bg17, bg18, bg19, bg20, ec, bAbs, bInt, p1, p2, oMod, hB0, oMul, oAdd, oLt, pow17, oSub, bMax, ← hG]
theorem urn_run {ns : List Int} {i : Int} (h0 : 0 ≤ i) (st : Hs) : ∃ o, runC f__law_urn [.rl (ns.map .int), .int i] st = .ok (.ref st.length) (st ++ [o]) ∧ UrnO o := by
  obtain ⟨o0, e0, _⟩ := urn_ok (ns := ns) h0 []
  obtain ⟨o, e, u⟩ := urn_ok (ns := ns) h0 st
  refine ⟨o, ?_, u⟩
  unfold runC
  rw [if_pos (by simp [clIs, clI, cls_ints]), e0]
  simp only [clI, Bool.false_eq_true, if_false]
  exact e
abbrev le (ns : List Int) (e : Option IV) : Sm.Env := [some (.rl (ns.map .int)), e, none, none, none, none, none, none]
def lbody : MS := sIf (mtNot (mtB (mCall f__law_right (maC (mCall f__law_urn (maC (mVar 0) (maC (mVar 1) maN))) maN)))) (sRet (mC (.bl false))) sNx
theorem body_ok {ns : List Int} {i : Int} (h0 : 0 ≤ i) (st : Hs) : ∃ st', lbody (le ns (some (.int i))) st = .nx (le ns (some (.int i))) st' := by
  obtain ⟨o, e, u⟩ := urn_run (ns := ns) h0 st
  obtain ⟨st', e2⟩ := right_ok (st := st ++ [o]) (a := st.length) ⟨o, by simp, u⟩
  refine ⟨st', ?_⟩
  simp [lbody, mDef, endR, sRet, sRetN, sE, sSeq, sNx, sIf, sAsg, sExp, asNx, sPar2, sPar3, mVar, mC, mBin, bnd, lf, mB, maC, maN, Sm.ret, Sm.stuck, gNm, gTp, gsC, gsN, gSb, mtB, asB, mtAnd, mtOr, mtNot, mAnd, mOr, mNot, mIf, mCall, mTup, mLst, mDct, mNeg, mIsi, mChain, mSl, mNo, mPt, newL, bg1, bg2, bg3, bg4, bg5, bg6, bg7, bg8, bg9, bg10, bg11, bg12, bg13, bg14, bg15, bg16, bg17, bg18, bg19, bg20, e, e2]
theorem loop_ok {ns : List Int} {n : Nat} : ∀ (k i : Nat) (e : Option IV) (st : Hs), i + k = n → ∃ e' st', goFor (.rng 0 n) (gNm 1) lbody k i (le ns e) st = .nx (le ns e') st' ∧ ((∃ j, e' = some (.int j)) ∨ (k = 0 ∧ e' = e))
  | 0, i, e, st, h => ⟨e, st, rfl, .inr ⟨rfl, rfl⟩⟩
  | k + 1, i, e, st, h => by
    obtain ⟨st1, e1⟩ := body_ok (ns := ns) (i := (0 + (i : Int))) (by omega) st
    obtain ⟨e', st2, e2, h2⟩ := loop_ok (ns := ns) (n := n) k (i + 1) (some (.int (0 + (i : Int)))) st1 (by omega)
    refine ⟨e', st2, ?_, .inl ?_⟩
    · unfold goFor
      have hi : i < n := by omega
      simp only [Src.item, hi, if_true, gNm, Sm.ret, List.set_cons_succ, List.set_cons_zero]
      rw [e1]
      exact e2
    · rcases h2 with h2 | ⟨_, h2⟩
      · exact h2
      · exact ⟨_, h2⟩
theorem first_ok {ns : List Int} (hn : ns.length ≤ 63) : ∃ j, b_law_0 (le ns none) [] = .nx (le ns (some (.int j))) [] := by
  obtain ⟨m, hm⟩ : ∃ m : Int, m = (if (if (ns.length : Int) < 12 then (ns.length : Int) else 12) > 1 then (if (ns.length : Int) < 12 then (ns.length : Int) else 12) else 1) := ⟨_, rfl⟩
  have m1 : 1 ≤ m := by rw [hm]; split <;> omega
  have m2 : m ≤ 12 := by rw [hm]; split <;> (try split) <;> omega
  obtain ⟨e', st', e1, h1⟩ := loop_ok (ns := ns) (n := m.toNat) m.toNat 0 none [] (Nat.zero_add _)
  rcases h1 with ⟨j, rfl⟩ | ⟨z, _⟩
  · refine ⟨j, ?_⟩
    have c1 : -4611686018427387904 ≤ m := by omega
    have c2 : m < 4611686018427387904 := by omega
    have ei : iRg1 (maC (mB bMax (maC (mC (.int 1)) (maC (mB bMin (maC (mC (.int 12)) (maC (mB bLen (maC (mVar 0) maN)) maN))) maN))) maN) (le ns none) [] = .ok (.rng 0 m.toNat) [] := by
      simp [iRg1, mDef, endR, sRet, sRetN, sE, sSeq, sNx, sIf, sAsg, sExp, asNx, sPar2, sPar3, mVar, mC, mBin, bnd, lf, mB, maC, maN, Sm.ret, Sm.stuck, gNm, gTp, gsC, gsN, gSb, mtB, asB, mtAnd, mtOr, mtNot, mAnd, mOr, mNot, mIf, mCall, mTup, mLst, mDct, mNeg, mIsi, mChain, mSl, mNo, mPt, newL, bg1, bg2, bg3, bg4, bg5, bg6, bg7, bg8, bg9, bg10, bg11, bg12, bg13, bg14, bg15, bg16, bg17, bg18, bg19, bg20, bMax, bMin, bLen, seqOf, lstOf]
      rw [← hm]
      simp [c1, c2]
    show sGc (sFor (iRg1 (maC (mB bMax (maC (mC (.int 1)) (maC (mB bMin (maC (mC (.int 12)) (maC (mB bLen (maC (mVar 0) maN)) maN))) maN))) maN)) (gNm 1) lbody) (le ns none) [] = _
    unfold sGc sFor sE
    rw [ei]
    dsimp only [Src.n]
    rw [e1]
    simp [clEnv, clI, cls_ints]
  · omega
def lrest : MS := sSeq b_law_1 (sSeq b_law_2 (sSeq b_law_3 (sSeq b_law_4 (sSeq b_law_5 (sSeq b_law_6 (sSeq b_law_7 (sSeq b_law_8 (sSeq b_law_9 b_law_10))))))))
theorem rest_ok (ns : List Int) (j : Int) : okB (lrest (le ns (some (.int j))) []) = some true := by kernel_rfl
theorem good (ns : List Int) (hn : ns.length ≤ 63) : ∃ st, f_law [.rl (ns.map .int)] [] = .ok (.bl true) st := by
  obtain ⟨j, e⟩ := first_ok hn
  have e2 : b_law (le ns none) [] = lrest (le ns (some (.int j))) [] := by
    unfold b_law
    show sSeq b_law_0 lrest _ _ = _
    unfold sSeq
    rw [e]
  show ∃ st, endR (b_law (le ns none) []) = _
  rw [e2]
  exact okB_true (rest_ok ns j)
end K01

set_option Elab.async false
set_option linter.all false
set_option maxRecDepth 100000
set_option maxHeartbeats 0
namespace K01
open Sm L2 PySem PySem.Spec
def top (i : Nat) : Stmt := PySem.Challenge.pw_stepmarks_k01_names_situations_steps.main.body.getD i (.Pass ⟨0, 0, 0, 0⟩)
/-! what is asked of the written part -/
structure Fx (K : PySem.W.Frag) (mg : Str → Option Value) : Prop where
  n_abs : mg "abs" = none
  n_all : mg "all" = none
  n_bool : mg "bool" = none
  n_int : mg "int" = none
  n_isinstance : mg "isinstance" = none
  n_len : mg "len" = none
  n_list : mg "list" = none
  n_max : mg "max" = none
  n_min : mg "min" = none
  n_range : mg "range" = none
  n_repr : mg "repr" = none
  n_str : mg "str" = none
  n_tuple : mg "tuple" = none
  k_LETTERS : ∃ t, mg "LETTERS" = some (.str "abcdefghijklmnopqrstuvwxyz" t)
  k_MAX_LETTERS : ∃ t, mg "MAX_LETTERS" = some (.int 8 t)
  k_MAX_MOVES : ∃ t, mg "MAX_MOVES" = some (.int 12 t)
  k_MAX_POINTS : ∃ t, mg "MAX_POINTS" = some (.int 6 t)
  k_MAX_SIZE : ∃ t, mg "MAX_SIZE" = some (.int 5 t)
  k_TOP : ∃ t, mg "TOP" = some (.int 10000000000000000000000000000000000000000 t)
  d_is_integer : DefAt K mg "is_integer" (top 10) ["value"]
  d_is_below : DefAt K mg "is_below" (top 11) ["value", "limit"]
  d_is_name : DefAt K mg "is_name" (top 12) ["value"]
  d_is_pair : DefAt K mg "is_pair" (top 13) ["value", "limit"]
  d_is_situation : DefAt K mg "is_situation" (top 14) ["value"]
  d_spot_by : DefAt K mg "spot_by" (top 16) ["situation"]
  d_spot_of : DefAt K mg "spot_of" (top 17) ["situation"]
  d__law_is_refused : DefAt K mg "_law_is_refused" (top 29) ["value"]
  d__law_take : DefAt K mg "_law_take" (top 20) ["urn", "total"]
  d__law_name : DefAt K mg "_law_name" (top 23) ["urn"]
  d__law_one : DefAt K mg "_law_one" (top 21) ["urn", "items"]
  d__law_situation : DefAt K mg "_law_situation" (top 25) ["urn"]
  d__law_spoilt : DefAt K mg "_law_spoilt" (top 27) ["urn", "row"]
  d__law_step : DefAt K mg "_law_step" (top 26) ["urn"]
  d_is_step : DefAt K mg "is_step" (top 15) ["value"]
  d__law_right : DefAt K mg "_law_right" (top 28) ["urn"]
  d__law_urn : DefAt K mg "_law_urn" (top 19) ["script", "at"]
  d_law : DefAt K mg "law" (top 30) ["script"]
  e_InvalidSituation : ExcAt K mg "InvalidSituation"
  t_InvalidSituation : ∃ C, mg "InvalidSituation" = some (.ref C) ∧ SubAt K mg (.ref C) sub_InvalidSituation
/-! the derivations -/
section
variable {P : Program} {w : World} {K : PySem.W.Frag} {mg : Str → Option Value} {base : Heap}
theorem z_is_integer : FnScope ["value"] ["value"] (defScope (top 10)) := ⟨rfl, rfl, rfl, by decide +kernel, rfl, by decide +kernel, by decide +kernel⟩
theorem body_is_integer (F : Fx K mg) {f : Addr} {cd : Value} {A : Around} {fr : List PySem.Env} {s : Shared} {H : Hp} {E : XK} (bd : Bd 0 (bX P w K mg base ["value"] "is_integer" (top 10) f cd A fr s H E) (fun cls d _ H => E cls d H)) :
    PSsm (bX P w K mg base ["value"] "is_integer" (top 10) f cd A fr s H E) (fun cls d _ H => E cls d H) (defBody (top 10)) b_is_integer := by
  have hN := (z_is_integer).nd
  have hu := bd.room.units
  unfold b_is_integer
  exact (psm_one (psm_ret (pem_and (pem_isi (pem_var 0) (by rfl) F.n_isinstance (by rfl) F.n_int (by rfl) kit_int) (pem_and (pem_not (pem_isi (pem_var 0) (by rfl) F.n_isinstance (by rfl) F.n_bool (by rfl) kit_bool)) (pem_one (pem_chain or_lt or_lt (pem_neg (pem_gI (by rfl) F.k_TOP)) (pem_var 0) (pem_gI (by rfl) F.k_TOP)))))))
theorem c_is_integer (F : Fx K mg) : Cal P w K mg base 1 "is_integer" 1 f_is_integer := cal_of F.d_is_integer z_is_integer fun f cd A fr s H E bd => body_is_integer F bd
theorem z_is_below : FnScope ["value", "limit"] ["value", "limit"] (defScope (top 11)) := ⟨rfl, rfl, rfl, by decide +kernel, rfl, by decide +kernel, by decide +kernel⟩
theorem body_is_below (F : Fx K mg) {f : Addr} {cd : Value} {A : Around} {fr : List PySem.Env} {s : Shared} {H : Hp} {E : XK} (bd : Bd 1 (bX P w K mg base ["value", "limit"] "is_below" (top 11) f cd A fr s H E) (fun cls d _ H => E cls d H)) :
    PSsm (bX P w K mg base ["value", "limit"] "is_below" (top 11) f cd A fr s H E) (fun cls d _ H => E cls d H) (defBody (top 11)) b_is_below := by
  have hN := (z_is_below).nd
  have hu := bd.room.units
  unfold b_is_below
  exact (psm_one (psm_ret (pem_and (pem_call (c_is_integer F) (bd.room.mono (by decide)) bd.gd (pass_tk bd.tk) (pam_cons (pem_var 0) pam_nil) (by rfl) (hlen := (len_cons len_nil))) (pem_one (pem_chain or_le or_lt pem_int (pem_var 0) (pem_var 1))))))
theorem c_is_below (F : Fx K mg) : Cal P w K mg base 2 "is_below" 2 f_is_below := cal_of F.d_is_below z_is_below fun f cd A fr s H E bd => body_is_below F bd
theorem z_is_name : FnScope ["value", "letter"] ["value"] (defScope (top 12)) := ⟨rfl, rfl, rfl, by decide +kernel, rfl, by decide +kernel, by decide +kernel⟩
theorem body_is_name (F : Fx K mg) {f : Addr} {cd : Value} {A : Around} {fr : List PySem.Env} {s : Shared} {H : Hp} {E : XK} (bd : Bd 0 (bX P w K mg base ["value", "letter"] "is_name" (top 12) f cd A fr s H E) (fun cls d _ H => E cls d H)) :
    PSsm (bX P w K mg base ["value", "letter"] "is_name" (top 12) f cd A fr s H E) (fun cls d _ H => E cls d H) (defBody (top 12)) b_is_name := by
  have hN := (z_is_name).nd
  have hu := bd.room.units
  unfold b_is_name
  exact (psm_cons (psm_if (ptm_bool (pwm_or (ptm_not (ptm_val (pem_isi (pem_var 0) (by rfl) F.n_isinstance (by rfl) F.n_str (by rfl) kit_str))) (pwm_or1 (ptm_not (ptm_chain or_lt or_le pem_int (pem_callB cb_len (pam_cons (pem_var 0) pam_nil) (by rfl) F.n_len (by rfl)) (pem_gI (by rfl) F.k_MAX_LETTERS)))))) (psm_one (psm_ret pem_bl)) psm_nil)
    (psm_one (psm_ret (pem_callB (cb_all rfl) (pam_cons (pem_lc (own := [(("letter" : Str), 1)]) rfl hN (blk_ok (by kernel_rfl)) (pim_tx (pem_var 0)) (fun _ _ _ _ _ => (pgm_name hN)) (fun _ _ _ _ _ => ptsm_nil) (fun _ _ _ _ _ => (pem_cmp (or_in hu) (pem_var 1) (pem_gS (by rfl) F.k_LETTERS)))) pam_nil) (by rfl) F.n_all (by rfl)))))
theorem c_is_name (F : Fx K mg) : Cal P w K mg base 1 "is_name" 1 f_is_name := cal_of F.d_is_name z_is_name fun f cd A fr s H E bd => body_is_name F bd
theorem z_is_pair : FnScope ["value", "limit"] ["value", "limit"] (defScope (top 13)) := ⟨rfl, rfl, rfl, by decide +kernel, rfl, by decide +kernel, by decide +kernel⟩
theorem body_is_pair (F : Fx K mg) {f : Addr} {cd : Value} {A : Around} {fr : List PySem.Env} {s : Shared} {H : Hp} {E : XK} (bd : Bd 2 (bX P w K mg base ["value", "limit"] "is_pair" (top 13) f cd A fr s H E) (fun cls d _ H => E cls d H)) :
    PSsm (bX P w K mg base ["value", "limit"] "is_pair" (top 13) f cd A fr s H E) (fun cls d _ H => E cls d H) (defBody (top 13)) b_is_pair := by
  have hN := (z_is_pair).nd
  have hu := bd.room.units
  unfold b_is_pair
  exact (psm_one (psm_ret (pem_and (pem_isi (pem_var 0) (by rfl) F.n_isinstance (by rfl) F.n_tuple (by rfl) kit_tuple) (pem_and (pem_cmp (or_eq hu) (pem_callB cb_len (pam_cons (pem_var 0) pam_nil) (by rfl) F.n_len (by rfl)) pem_int) (pem_and (pem_call (c_is_name F) (bd.room.mono (by decide)) bd.gd (pass_tk bd.tk) (pam_cons (pem_ix (pem_var 0) pem_int) pam_nil) (by rfl) (hlen := (len_cons len_nil))) (pem_one (pem_call (c_is_below F) (bd.room.mono (by decide)) bd.gd (pass_tk bd.tk) (pam_cons (pem_ix (pem_var 0) pem_int) (pam_cons (pem_var 1) pam_nil)) (by rfl) (hlen := (len_cons (len_cons len_nil))))))))))
theorem c_is_pair (F : Fx K mg) : Cal P w K mg base 3 "is_pair" 2 f_is_pair := cal_of F.d_is_pair z_is_pair fun f cd A fr s H E bd => body_is_pair F bd
theorem z_is_situation : FnScope ["value", "frames", "frame"] ["value"] (defScope (top 14)) := ⟨rfl, rfl, rfl, by decide +kernel, rfl, by decide +kernel, by decide +kernel⟩
theorem body_is_situation (F : Fx K mg) {f : Addr} {cd : Value} {A : Around} {fr : List PySem.Env} {s : Shared} {H : Hp} {E : XK} (bd : Bd 3 (bX P w K mg base ["value", "frames", "frame"] "is_situation" (top 14) f cd A fr s H E) (fun cls d _ H => E cls d H)) :
    PSsm (bX P w K mg base ["value", "frames", "frame"] "is_situation" (top 14) f cd A fr s H E) (fun cls d _ H => E cls d H) (defBody (top 14)) b_is_situation := by
  have hN := (z_is_situation).nd
  have hu := bd.room.units
  unfold b_is_situation
  exact (psm_cons (psm_if (ptm_bool (pwm_or (ptm_not (ptm_val (pem_isi (pem_var 0) (by rfl) F.n_isinstance (by rfl) F.n_tuple (by rfl) kit_tuple))) (pwm_or (ptm_cmp (or_ne hu) (pem_callB cb_len (pam_cons (pem_var 0) pam_nil) (by rfl) F.n_len (by rfl)) pem_int) (pwm_or1 (ptm_not (ptm_val (pem_call (c_is_below F) (bd.room.mono (by decide)) bd.gd (pass_tk bd.tk) (pam_cons (pem_ix (pem_var 0) pem_int) (pam_cons (pem_gI (by rfl) F.k_MAX_SIZE) pam_nil)) (by rfl) (hlen := (len_cons (len_cons len_nil)))))))))) (psm_one (psm_ret pem_bl)) psm_nil)
    (psm_cons (psm_asg (pem_ix (pem_var 0) pem_int) (pgm_name hN))
    (psm_cons (psm_if (ptm_bool (pwm_or (ptm_not (ptm_val (pem_isi (pem_var 1) (by rfl) F.n_isinstance (by rfl) F.n_tuple (by rfl) kit_tuple))) (pwm_or1 (ptm_not (ptm_val (pem_callB (cb_all rfl) (pam_cons (pem_lc (own := [(("frame" : Str), 2)]) rfl hN (blk_ok (by kernel_rfl)) (pim_tp (pem_sl (pem_var 1) pom_no (pom_at (pem_neg pem_int)))) (fun _ _ _ _ _ => (pgm_name hN)) (fun _ _ _ _ _ => ptsm_nil) (fun _ _ _ _ _ => (pem_call (c_is_pair F) (bd.room.mono (by decide)) bd.gd pass_0 (pam_cons (pem_var 2) (pam_cons (pem_gI (by rfl) F.k_MAX_MOVES) pam_nil)) (by rfl) (hlen := (len_cons (len_cons len_nil)))))) pam_nil) (by rfl) F.n_all (by rfl))))))) (psm_one (psm_ret pem_bl)) psm_nil)
    (psm_one (psm_ret (pem_or (pem_cmp (or_eq hu) (pem_var 1) (pem_tup pam_nil)) (pem_one (pem_call (c_is_pair F) (bd.room.mono (by decide)) bd.gd (pass_tk bd.tk) (pam_cons (pem_ix (pem_var 1) (pem_neg pem_int)) (pam_cons (pem_gI (by rfl) F.k_MAX_POINTS) pam_nil)) (by rfl) (hlen := (len_cons (len_cons len_nil)))))))))))
theorem c_is_situation (F : Fx K mg) : Cal P w K mg base 4 "is_situation" 1 f_is_situation := cal_of F.d_is_situation z_is_situation fun f cd A fr s H E bd => body_is_situation F bd
theorem z_spot_by : FnScope ["situation", "number", "frames", "name", "point"] ["situation"] (defScope (top 16)) := ⟨rfl, rfl, rfl, by decide +kernel, rfl, by decide +kernel, by decide +kernel⟩
theorem body_spot_by (F : Fx K mg) {f : Addr} {cd : Value} {A : Around} {fr : List PySem.Env} {s : Shared} {H : Hp} {E : XK} (bd : Bd 0 (bX P w K mg base ["situation", "number", "frames", "name", "point"] "spot_by" (top 16) f cd A fr s H E) (fun cls d _ H => E cls d H)) :
    PSsm (bX P w K mg base ["situation", "number", "frames", "name", "point"] "spot_by" (top 16) f cd A fr s H E) (fun cls d _ H => E cls d H) (defBody (top 16)) b_spot_by := by
  have hN := (z_spot_by).nd
  have hu := bd.room.units
  unfold b_spot_by
  exact (psm_cons (psm_asg (pem_var 0) (pgm_tup rfl (pgsm_cons (pgm_name hN) (pgsm_cons (pgm_name hN) pgsm_nil))))
    (psm_cons (psm_if (ptm_cmp (or_eq hu) (pem_var 2) (pem_tup pam_nil)) (psm_one (psm_ret (pem_tup (pam_cons (pem_var 1) pam_nil)))) psm_nil)
    (psm_cons (psm_asg (pem_ix (pem_var 2) (pem_neg pem_int)) (pgm_tup rfl (pgsm_cons (pgm_name hN) (pgsm_cons (pgm_name hN) pgsm_nil))))
    (psm_one (psm_ret (pem_tup (pam_cons (pem_var 3) (pam_cons (pem_var 4) (pam_cons (pem_var 1) pam_nil)))))))))
theorem c_spot_by (F : Fx K mg) : Cal P w K mg base 1 "spot_by" 1 f_spot_by := cal_of F.d_spot_by z_spot_by fun f cd A fr s H E bd => body_spot_by F bd
theorem z_spot_of : FnScope ["situation"] ["situation"] (defScope (top 17)) := ⟨rfl, rfl, rfl, by decide +kernel, rfl, by decide +kernel, by decide +kernel⟩
theorem body_spot_of (F : Fx K mg) {f : Addr} {cd : Value} {A : Around} {fr : List PySem.Env} {s : Shared} {H : Hp} {E : XK} (bd : Bd 4 (bX P w K mg base ["situation"] "spot_of" (top 17) f cd A fr s H E) (fun cls d _ H => E cls d H)) :
    PSsm (bX P w K mg base ["situation"] "spot_of" (top 17) f cd A fr s H E) (fun cls d _ H => E cls d H) (defBody (top 17)) b_spot_of := by
  have hN := (z_spot_of).nd
  have hu := bd.room.units
  unfold b_spot_of
  exact (psm_cons (psm_if (ptm_not (ptm_val (pem_call (c_is_situation F) (bd.room.mono (by decide)) bd.gd (pass_tk bd.tk) (pam_cons (pem_var 0) pam_nil) (by rfl) (hlen := (len_cons len_nil))))) (psm_one (psm_raise1 F.e_InvalidSituation rfl bd.tk (by rfl))) psm_nil)
    (psm_one (psm_ret (pem_call (c_spot_by F) (bd.room.mono (by decide)) bd.gd (pass_tk bd.tk) (pam_cons (pem_var 0) pam_nil) (by rfl) (hlen := (len_cons len_nil))))))
theorem c_spot_of (F : Fx K mg) : Cal P w K mg base 5 "spot_of" 1 f_spot_of := cal_of F.d_spot_of z_spot_of fun f cd A fr s H E bd => body_spot_of F bd
theorem z__law_is_refused : FnScope ["value"] ["value"] (defScope (top 29)) := ⟨rfl, rfl, rfl, by decide +kernel, rfl, by decide +kernel, by decide +kernel⟩
theorem body__law_is_refused (F : Fx K mg) {f : Addr} {cd : Value} {A : Around} {fr : List PySem.Env} {s : Shared} {H : Hp} {E : XK} (bd : Bd 5 (bX P w K mg base ["value"] "_law_is_refused" (top 29) f cd A fr s H E) (fun cls d _ H => E cls d H)) :
    PSsm (bX P w K mg base ["value"] "_law_is_refused" (top 29) f cd A fr s H E) (fun cls d _ H => E cls d H) (defBody (top 29)) b__law_is_refused := by
  have hN := (z__law_is_refused).nd
  have hu := bd.room.units
  obtain ⟨_, tm_InvalidSituation, ts_InvalidSituation⟩ := F.t_InvalidSituation
  unfold b__law_is_refused
  exact (psm_cons (psm_try rfl rfl ⟨by rfl, by decide, .inl tm_InvalidSituation⟩ bd.tk ts_InvalidSituation (fun _ _ _ tk po => (psm_one (psm_exp (pem_call (c_spot_of F) (bd.room.mono (by decide)) bd.gd (pass_tk tk) (pam_cons (pem_var 0) pam_nil) (by rfl) (hlen := (len_cons len_nil)))))) (fun _ _ _ => (psm_one (psm_ret pem_bl))))
    (psm_one (psm_ret pem_bl)))
theorem c__law_is_refused (F : Fx K mg) : Cal P w K mg base 6 "_law_is_refused" 1 f__law_is_refused := cal_of F.d__law_is_refused z__law_is_refused fun f cd A fr s H E bd => body__law_is_refused F bd
theorem z__law_take : FnScope ["urn", "total", "found", "one", "two", "three"] ["urn", "total"] (defScope (top 20)) := ⟨rfl, rfl, rfl, by decide +kernel, rfl, by decide +kernel, by decide +kernel⟩
theorem body__law_take (F : Fx K mg) {f : Addr} {cd : Value} {A : Around} {fr : List PySem.Env} {s : Shared} {H : Hp} {E : XK} (bd : Bd 0 (bX P w K mg base ["urn", "total", "found", "one", "two", "three"] "_law_take" (top 20) f cd A fr s H E) (fun cls d _ H => E cls d H)) :
    PSsm (bX P w K mg base ["urn", "total", "found", "one", "two", "three"] "_law_take" (top 20) f cd A fr s H E) (fun cls d _ H => E cls d H) (defBody (top 20)) b__law_take := by
  have hN := (z__law_take).nd
  have hu := bd.room.units
  unfold b__law_take
  exact (psm_cons (psm_if (ptm_cmp or_gt (pem_ix (pem_var 0) pem_int) pem_int) (psm_cons (psm_asg (pem_op or_mod (pem_callTy ct_int (pam_cons (pem_ix (pem_var 0) pem_int) pam_nil) (by rfl) F.n_int (by rfl)) (pem_var 1)) (pgm_name hN))
    (psm_cons (psm_asg (pem_op or_fdv (pem_ix (pem_var 0) pem_int) (pem_var 1)) (pgm_sub (pem_var 0) pem_int))
    (psm_one (psm_ret (pem_var 2))))) psm_nil)
    (psm_cons (psm_asg (pem_op or_add (pem_ix (pem_var 0) pem_int) pem_int) (pgm_sub (pem_var 0) pem_int))
    (psm_cons (psm_asg (pem_op or_mod (pem_callTy ct_int (pam_cons (pem_op or_add (pem_ix (pem_var 0) pem_int) (pem_op or_mul pem_int (pem_ix (pem_var 0) pem_int))) pam_nil) (by rfl) F.n_int (by rfl)) pem_int) (pgm_name hN))
    (psm_cons (psm_asg (pem_op or_mod (pem_callTy ct_int (pam_cons (pem_op or_add (pem_op or_mul (pem_var 3) (pem_var 3)) (pem_op or_mul pem_int (pem_ix (pem_var 0) pem_int))) pam_nil) (by rfl) F.n_int (by rfl)) pem_int) (pgm_name hN))
    (psm_cons (psm_asg (pem_op or_mod (pem_callTy ct_int (pam_cons (pem_op or_add (pem_op or_mul (pem_var 4) (pem_var 4)) (pem_var 3)) pam_nil) (by rfl) F.n_int (by rfl)) pem_int) (pgm_name hN))
    (psm_one (psm_ret (pem_op or_mod (pem_callTy ct_int (pam_cons (pem_op or_fdv (pem_var 5) pem_int) pam_nil) (by rfl) F.n_int (by rfl)) (pem_var 1)))))))))
theorem c__law_take (F : Fx K mg) : Cal P w K mg base 1 "_law_take" 2 f__law_take := cal_of F.d__law_take z__law_take fun f cd A fr s H E bd => body__law_take F bd
theorem z__law_name : FnScope ["urn", "letters", "turn"] ["urn"] (defScope (top 23)) := ⟨rfl, rfl, rfl, by decide +kernel, rfl, by decide +kernel, by decide +kernel⟩
theorem body__law_name (F : Fx K mg) {f : Addr} {cd : Value} {A : Around} {fr : List PySem.Env} {s : Shared} {H : Hp} {E : XK} (bd : Bd 1 (bX P w K mg base ["urn", "letters", "turn"] "_law_name" (top 23) f cd A fr s H E) (fun cls d _ H => E cls d H)) :
    PSsm (bX P w K mg base ["urn", "letters", "turn"] "_law_name" (top 23) f cd A fr s H E) (fun cls d _ H => E cls d H) (defBody (top 23)) b__law_name := by
  have hN := (z__law_name).nd
  have hu := bd.room.units
  unfold b__law_name
  exact (psm_cons (psm_asg pem_str (pgm_name hN))
    (psm_one (psm_ret (pem_join pem_str (pem_lc (own := [(("turn" : Str), 2)]) rfl hN (blk_ok (by kernel_rfl)) (pim_rg1 (pam_cons (pem_op or_add pem_int (pem_call (c__law_take F) (bd.room.mono (by decide)) bd.gd (pass_tk bd.tk) (pam_cons (pem_var 0) (pam_cons pem_int pam_nil)) (by rfl) (hlen := (len_cons (len_cons len_nil))))) pam_nil) (by rfl) F.n_range) (fun _ _ _ _ _ => (pgm_name hN)) (fun _ _ _ _ _ => ptsm_nil) (fun _ _ _ _ _ => (pem_ix (pem_var 1) (pem_call (c__law_take F) (bd.room.mono (by decide)) bd.gd pass_0 (pam_cons (pem_var 0) (pam_cons pem_int pam_nil)) (by rfl) (hlen := (len_cons (len_cons len_nil)))))))))))
theorem c__law_name (F : Fx K mg) : Cal P w K mg base 2 "_law_name" 1 f__law_name := cal_of F.d__law_name z__law_name fun f cd A fr s H E bd => body__law_name F bd
theorem z__law_one : FnScope ["urn", "items"] ["urn", "items"] (defScope (top 21)) := ⟨rfl, rfl, rfl, by decide +kernel, rfl, by decide +kernel, by decide +kernel⟩
theorem body__law_one (F : Fx K mg) {f : Addr} {cd : Value} {A : Around} {fr : List PySem.Env} {s : Shared} {H : Hp} {E : XK} (bd : Bd 1 (bX P w K mg base ["urn", "items"] "_law_one" (top 21) f cd A fr s H E) (fun cls d _ H => E cls d H)) :
    PSsm (bX P w K mg base ["urn", "items"] "_law_one" (top 21) f cd A fr s H E) (fun cls d _ H => E cls d H) (defBody (top 21)) b__law_one := by
  have hN := (z__law_one).nd
  have hu := bd.room.units
  unfold b__law_one
  exact (psm_one (psm_ret (pem_ix (pem_var 1) (pem_call (c__law_take F) (bd.room.mono (by decide)) bd.gd (pass_tk bd.tk) (pam_cons (pem_var 0) (pam_cons (pem_callB cb_len (pam_cons (pem_var 1) pam_nil) (by rfl) F.n_len (by rfl)) pam_nil)) (by rfl) (hlen := (len_cons (len_cons len_nil)))))))
theorem c__law_one (F : Fx K mg) : Cal P w K mg base 2 "_law_one" 2 f__law_one := cal_of F.d__law_one z__law_one fun f cd A fr s H E bd => body__law_one F bd
theorem z__law_situation : FnScope ["urn", "frames", "turn"] ["urn"] (defScope (top 25)) := ⟨rfl, rfl, rfl, by decide +kernel, rfl, by decide +kernel, by decide +kernel⟩
theorem body__law_situation (F : Fx K mg) {f : Addr} {cd : Value} {A : Around} {fr : List PySem.Env} {s : Shared} {H : Hp} {E : XK} (bd : Bd 2 (bX P w K mg base ["urn", "frames", "turn"] "_law_situation" (top 25) f cd A fr s H E) (fun cls d _ H => E cls d H)) :
    PSsm (bX P w K mg base ["urn", "frames", "turn"] "_law_situation" (top 25) f cd A fr s H E) (fun cls d _ H => E cls d H) (defBody (top 25)) b__law_situation := by
  have hN := (z__law_situation).nd
  have hu := bd.room.units
  unfold b__law_situation
  exact (psm_cons (by first | exact psm_setLc (own := [(("turn" : Str), 2)]) rfl hN (blk_ok (by kernel_rfl)) (pim_rg1 (pam_cons (pem_call (c__law_take F) (bd.room.mono (by decide)) bd.gd (pass_tk bd.tk) (pam_cons (pem_var 0) (pam_cons pem_int pam_nil)) (by rfl) (hlen := (len_cons (len_cons len_nil)))) pam_nil) (by rfl) F.n_range) (fun _ _ _ _ _ => (pgm_name hN)) (fun _ _ _ _ _ => ptsm_nil) (fun _ _ _ _ _ => (pem_tup (pam_cons (pem_call (c__law_name F) (bd.room.mono (by decide)) bd.gd pass_0 (pam_cons (pem_var 0) pam_nil) (by rfl) (hlen := (len_cons len_nil))) (pam_cons (pem_call (c__law_one F) (bd.room.mono (by decide)) bd.gd pass_0 (pam_cons (pem_var 0) (pam_cons (pem_lst (pam_cons pem_int (pam_cons pem_int (pam_cons (pem_call (c__law_take F) (bd.room.mono (by decide)) bd.gd pass_0 (pam_cons (pem_var 0) (pam_cons pem_int pam_nil)) (by rfl) (hlen := (len_cons (len_cons len_nil)))) pam_nil)))) pam_nil)) (by rfl) (hlen := (len_cons (len_cons len_nil)))) pam_nil)))) | exact psm_asg (pem_lc (own := [(("turn" : Str), 2)]) rfl hN (blk_ok (by kernel_rfl)) (pim_rg1 (pam_cons (pem_call (c__law_take F) (bd.room.mono (by decide)) bd.gd (pass_tk bd.tk) (pam_cons (pem_var 0) (pam_cons pem_int pam_nil)) (by rfl) (hlen := (len_cons (len_cons len_nil)))) pam_nil) (by rfl) F.n_range) (fun _ _ _ _ _ => (pgm_name hN)) (fun _ _ _ _ _ => ptsm_nil) (fun _ _ _ _ _ => (pem_tup (pam_cons (pem_call (c__law_name F) (bd.room.mono (by decide)) bd.gd pass_0 (pam_cons (pem_var 0) pam_nil) (by rfl) (hlen := (len_cons len_nil))) (pam_cons (pem_call (c__law_one F) (bd.room.mono (by decide)) bd.gd pass_0 (pam_cons (pem_var 0) (pam_cons (pem_lst (pam_cons pem_int (pam_cons pem_int (pam_cons (pem_call (c__law_take F) (bd.room.mono (by decide)) bd.gd pass_0 (pam_cons (pem_var 0) (pam_cons pem_int pam_nil)) (by rfl) (hlen := (len_cons (len_cons len_nil)))) pam_nil)))) pam_nil)) (by rfl) (hlen := (len_cons (len_cons len_nil)))) pam_nil))))) (pgm_name hN))
    (psm_cons (psm_if (ptm_cmp or_gt (pem_call (c__law_take F) (bd.room.mono (by decide)) bd.gd (pass_tk bd.tk) (pam_cons (pem_var 0) (pam_cons pem_int pam_nil)) (by rfl) (hlen := (len_cons (len_cons len_nil)))) pem_int) (psm_one (psm_exp (pem_append (pem_var 1) (pam_cons (pem_tup (pam_cons (pem_call (c__law_name F) (bd.room.mono (by decide)) bd.gd (pass_tk bd.tk) (pam_cons (pem_var 0) pam_nil) (by rfl) (hlen := (len_cons len_nil))) (pam_cons (pem_call (c__law_one F) (bd.room.mono (by decide)) bd.gd (pass_tk bd.tk) (pam_cons (pem_var 0) (pam_cons (pem_lst (pam_cons pem_int (pam_cons pem_int (pam_cons (pem_call (c__law_take F) (bd.room.mono (by decide)) bd.gd (pass_tk bd.tk) (pam_cons (pem_var 0) (pam_cons pem_int pam_nil)) (by rfl) (hlen := (len_cons (len_cons len_nil)))) pam_nil)))) pam_nil)) (by rfl) (hlen := (len_cons (len_cons len_nil)))) pam_nil))) pam_nil)))) (psm_one (psm_if (ptm_cmp (or_ne hu) (pem_var 1) (pem_lst pam_nil)) (psm_one (psm_asg (pem_tup (pam_cons (pem_ix (pem_ix (pem_var 1) (pem_neg pem_int)) pem_int) (pam_cons (pem_call (c__law_take F) (bd.room.mono (by decide)) bd.gd (pass_tk bd.tk) (pam_cons (pem_var 0) (pam_cons pem_int pam_nil)) (by rfl) (hlen := (len_cons (len_cons len_nil)))) pam_nil))) (pgm_sub (pem_var 1) (pem_neg pem_int)))) psm_nil)))
    (psm_one (psm_ret (pem_tup (pam_cons (pem_call (c__law_take F) (bd.room.mono (by decide)) bd.gd (pass_tk bd.tk) (pam_cons (pem_var 0) (pam_cons pem_int pam_nil)) (by rfl) (hlen := (len_cons (len_cons len_nil)))) (pam_cons (pem_var 1) pam_nil)))))))
theorem c__law_situation (F : Fx K mg) : Cal P w K mg base 3 "_law_situation" 1 f__law_situation := cal_of F.d__law_situation z__law_situation fun f cd A fr s H E bd => body__law_situation F bd
theorem z__law_spoilt : FnScope ["urn", "row", "way", "at", "odd"] ["urn", "row"] (defScope (top 27)) := ⟨rfl, rfl, rfl, by decide +kernel, rfl, by decide +kernel, by decide +kernel⟩
theorem body__law_spoilt (F : Fx K mg) {f : Addr} {cd : Value} {A : Around} {fr : List PySem.Env} {s : Shared} {H : Hp} {E : XK} (bd : Bd 2 (bX P w K mg base ["urn", "row", "way", "at", "odd"] "_law_spoilt" (top 27) f cd A fr s H E) (fun cls d _ H => E cls d H)) :
    PSsm (bX P w K mg base ["urn", "row", "way", "at", "odd"] "_law_spoilt" (top 27) f cd A fr s H E) (fun cls d _ H => E cls d H) (defBody (top 27)) b__law_spoilt := by
  have hN := (z__law_spoilt).nd
  have hu := bd.room.units
  unfold b__law_spoilt
  exact (psm_cons (psm_par2 rfl hN (pam_cons (pem_call (c__law_take F) (bd.room.mono (by decide)) bd.gd (pass_tk bd.tk) (pam_cons (pem_var 0) (pam_cons pem_int pam_nil)) (by rfl) (hlen := (len_cons (len_cons len_nil)))) (pam_cons (pem_call (c__law_take F) (bd.room.mono (by decide)) bd.gd (pass_tk bd.tk) (pam_cons (pem_var 0) (pam_cons (pem_callB cb_len (pam_cons (pem_var 1) pam_nil) (by rfl) F.n_len (by rfl)) pam_nil)) (by rfl) (hlen := (len_cons (len_cons len_nil)))) pam_nil)))
    (psm_cons (psm_if (ptm_cmp (or_eq hu) (pem_var 2) pem_int) (psm_one (psm_ret (pem_callTy ct_list (pam_cons (pem_var 1) pam_nil) (by rfl) F.n_list (by rfl)))) psm_nil)
    (psm_cons (psm_if (ptm_cmp (or_eq hu) (pem_var 2) pem_int) (psm_cons (psm_asg (pem_op or_add pem_int (pem_op or_mod (pem_var 3) (pem_op or_sub (pem_callB cb_len (pam_cons (pem_var 1) pam_nil) (by rfl) F.n_len (by rfl)) pem_int))) (pgm_name hN))
    (psm_one (psm_ret (pem_op or_add (pem_sl (pem_var 1) pom_no (pom_at (pem_var 3))) (pem_sl (pem_var 1) (pom_at (pem_op or_add (pem_var 3) pem_int)) pom_no))))) psm_nil)
    (psm_cons (psm_if (ptm_cmp (or_eq hu) (pem_var 2) pem_int) (psm_one (psm_ret (pem_op or_add (pem_var 1) (pem_tup (pam_cons (pem_ix (pem_var 1) (pem_neg pem_int)) pam_nil))))) psm_nil)
    (psm_cons (psm_asg (pem_call (c__law_one F) (bd.room.mono (by decide)) bd.gd (pass_tk bd.tk) (pam_cons (pem_var 0) (pam_cons (pem_lst (pam_cons pem_non (pam_cons pem_bl (pam_cons (pem_neg pem_int) (pam_cons pem_int (pam_cons pem_str (pam_cons pem_str (pam_cons pem_str (pam_cons (pem_tup (pam_cons pem_int pam_nil)) (pam_cons (pem_lst pam_nil) (pam_cons pem_dct (pam_cons (pem_op or_pow pem_int pem_int) pam_nil)))))))))))) pam_nil)) (by rfl) (hlen := (len_cons (len_cons len_nil)))) (pgm_name hN))
    (psm_one (psm_ret (pem_op or_add (pem_op or_add (pem_sl (pem_var 1) pom_no (pom_at (pem_var 3))) (pem_tup (pam_cons (pem_var 4) pam_nil))) (pem_sl (pem_var 1) (pom_at (pem_op or_add (pem_var 3) pem_int)) pom_no)))))))))
theorem c__law_spoilt (F : Fx K mg) : Cal P w K mg base 3 "_law_spoilt" 2 f__law_spoilt := cal_of F.d__law_spoilt z__law_spoilt fun f cd A fr s H E bd => body__law_spoilt F bd
theorem z__law_step : FnScope ["urn", "name", "point", "index", "number", "way"] ["urn"] (defScope (top 26)) := ⟨rfl, rfl, rfl, by decide +kernel, rfl, by decide +kernel, by decide +kernel⟩
theorem body__law_step (F : Fx K mg) {f : Addr} {cd : Value} {A : Around} {fr : List PySem.Env} {s : Shared} {H : Hp} {E : XK} (bd : Bd 2 (bX P w K mg base ["urn", "name", "point", "index", "number", "way"] "_law_step" (top 26) f cd A fr s H E) (fun cls d _ H => E cls d H)) :
    PSsm (bX P w K mg base ["urn", "name", "point", "index", "number", "way"] "_law_step" (top 26) f cd A fr s H E) (fun cls d _ H => E cls d H) (defBody (top 26)) b__law_step := by
  have hN := (z__law_step).nd
  have hu := bd.room.units
  unfold b__law_step
  exact (psm_cons (psm_par3 rfl hN (pam_cons (pem_call (c__law_name F) (bd.room.mono (by decide)) bd.gd (pass_tk bd.tk) (pam_cons (pem_var 0) pam_nil) (by rfl) (hlen := (len_cons len_nil))) (pam_cons (pem_call (c__law_take F) (bd.room.mono (by decide)) bd.gd (pass_tk bd.tk) (pam_cons (pem_var 0) (pam_cons pem_int pam_nil)) (by rfl) (hlen := (len_cons (len_cons len_nil)))) (pam_cons (pem_call (c__law_one F) (bd.room.mono (by decide)) bd.gd (pass_tk bd.tk) (pam_cons (pem_var 0) (pam_cons (pem_lst (pam_cons pem_int (pam_cons pem_int (pam_cons (pem_call (c__law_take F) (bd.room.mono (by decide)) bd.gd (pass_tk bd.tk) (pam_cons (pem_var 0) (pam_cons pem_int pam_nil)) (by rfl) (hlen := (len_cons (len_cons len_nil)))) pam_nil)))) pam_nil)) (by rfl) (hlen := (len_cons (len_cons len_nil)))) pam_nil))))
    (psm_cons (psm_asg (pem_call (c__law_one F) (bd.room.mono (by decide)) bd.gd (pass_tk bd.tk) (pam_cons (pem_var 0) (pam_cons (pem_lst (pam_cons pem_int (pam_cons pem_int (pam_cons (pem_call (c__law_take F) (bd.room.mono (by decide)) bd.gd (pass_tk bd.tk) (pam_cons (pem_var 0) (pam_cons pem_int pam_nil)) (by rfl) (hlen := (len_cons (len_cons len_nil)))) pam_nil)))) pam_nil)) (by rfl) (hlen := (len_cons (len_cons len_nil)))) (pgm_name hN))
    (psm_cons (psm_asg (pem_call (c__law_take F) (bd.room.mono (by decide)) bd.gd (pass_tk bd.tk) (pam_cons (pem_var 0) (pam_cons pem_int pam_nil)) (by rfl) (hlen := (len_cons (len_cons len_nil)))) (pgm_name hN))
    (psm_cons (psm_if (ptm_cmp (or_eq hu) (pem_var 5) pem_int) (psm_one (psm_ret (pem_tup (pam_cons pem_str (pam_cons (pem_var 2) (pam_cons (pem_var 4) pam_nil)))))) psm_nil)
    (psm_cons (psm_if (ptm_cmp (or_eq hu) (pem_var 5) pem_int) (psm_one (psm_ret (pem_tup (pam_cons pem_str (pam_cons (pem_var 1) (pam_cons (pem_var 2) (pam_cons (pem_call (c__law_name F) (bd.room.mono (by decide)) bd.gd (pass_tk bd.tk) (pam_cons (pem_var 0) pam_nil) (by rfl) (hlen := (len_cons len_nil))) (pam_cons (pem_var 3) (pam_cons (pem_var 4) pam_nil))))))))) psm_nil)
    (psm_one (psm_ret (pem_tup (pam_cons (pem_call (c__law_one F) (bd.room.mono (by decide)) bd.gd (pass_tk bd.tk) (pam_cons (pem_var 0) (pam_cons (pem_lst (pam_cons pem_str (pam_cons pem_str pam_nil))) pam_nil)) (by rfl) (hlen := (len_cons (len_cons len_nil)))) (pam_cons (pem_var 1) (pam_cons (pem_var 3) (pam_cons (pem_var 4) pam_nil))))))))))))
theorem c__law_step (F : Fx K mg) : Cal P w K mg base 3 "_law_step" 1 f__law_step := cal_of F.d__law_step z__law_step fun f cd A fr s H E bd => body__law_step F bd
theorem z_is_step : FnScope ["value", "name", "index", "number", "end", "caller", "point"] ["value"] (defScope (top 15)) := ⟨rfl, rfl, rfl, by decide +kernel, rfl, by decide +kernel, by decide +kernel⟩
theorem body_is_step (F : Fx K mg) {f : Addr} {cd : Value} {A : Around} {fr : List PySem.Env} {s : Shared} {H : Hp} {E : XK} (bd : Bd 3 (bX P w K mg base ["value", "name", "index", "number", "end", "caller", "point"] "is_step" (top 15) f cd A fr s H E) (fun cls d _ H => E cls d H)) :
    PSsm (bX P w K mg base ["value", "name", "index", "number", "end", "caller", "point"] "is_step" (top 15) f cd A fr s H E) (fun cls d _ H => E cls d H) (defBody (top 15)) b_is_step := by
  have hN := (z_is_step).nd
  have hu := bd.room.units
  unfold b_is_step
  exact (psm_cons (psm_if (ptm_bool (pwm_or (ptm_not (ptm_val (pem_isi (pem_var 0) (by rfl) F.n_isinstance (by rfl) F.n_tuple (by rfl) kit_tuple))) (pwm_or (ptm_cmp (or_eq hu) (pem_var 0) (pem_tup pam_nil)) (pwm_or1 (ptm_not (ptm_val (pem_call (c_is_below F) (bd.room.mono (by decide)) bd.gd (pass_tk bd.tk) (pam_cons (pem_ix (pem_var 0) (pem_neg pem_int)) (pam_cons (pem_gI (by rfl) F.k_MAX_SIZE) pam_nil)) (by rfl) (hlen := (len_cons (len_cons len_nil)))))))))) (psm_one (psm_ret pem_bl)) psm_nil)
    (psm_cons (psm_match (pem_var 0) (pcm_cons hN (ppm_seq rfl (ppsm_cons (ppm_str hu) (ppsm_cons ppm_cap (ppsm_cons ppm_cap (ppsm_cons ppm_cap ppsm_nil))))) (psm_one (psm_ret (pem_call (c_is_pair F) (bd.room.mono (by decide)) bd.gd (pass_tk bd.tk) (pam_cons (pem_tup (pam_cons (pem_var 1) (pam_cons (pem_var 2) pam_nil))) (pam_cons (pem_gI (by rfl) F.k_MAX_MOVES) pam_nil)) (by rfl) (hlen := (len_cons (len_cons len_nil))))))
    (pcm_cons hN (ppm_seq rfl (ppsm_cons (ppm_str hu) (ppsm_cons ppm_cap (ppsm_cons ppm_cap (ppsm_cons ppm_cap ppsm_nil))))) (psm_one (psm_ret (pem_call (c_is_pair F) (bd.room.mono (by decide)) bd.gd (pass_tk bd.tk) (pam_cons (pem_tup (pam_cons (pem_var 1) (pam_cons (pem_var 2) pam_nil))) (pam_cons (pem_gI (by rfl) F.k_MAX_MOVES) pam_nil)) (by rfl) (hlen := (len_cons (len_cons len_nil))))))
    (pcm_cons hN (ppm_seq rfl (ppsm_cons (ppm_str hu) (ppsm_cons ppm_cap (ppsm_cons ppm_cap (ppsm_cons ppm_cap (ppsm_cons ppm_cap (ppsm_cons ppm_cap ppsm_nil))))))) (psm_one (psm_ret (pem_and (pem_call (c_is_pair F) (bd.room.mono (by decide)) bd.gd (pass_tk bd.tk) (pam_cons (pem_tup (pam_cons (pem_var 1) (pam_cons (pem_var 4) pam_nil))) (pam_cons (pem_gI (by rfl) F.k_MAX_POINTS) pam_nil)) (by rfl) (hlen := (len_cons (len_cons len_nil)))) (pem_one (pem_call (c_is_pair F) (bd.room.mono (by decide)) bd.gd (pass_tk bd.tk) (pam_cons (pem_tup (pam_cons (pem_var 5) (pam_cons (pem_var 2) pam_nil))) (pam_cons (pem_gI (by rfl) F.k_MAX_MOVES) pam_nil)) (by rfl) (hlen := (len_cons (len_cons len_nil))))))))
    (pcm_cons hN (ppm_seq rfl (ppsm_cons (ppm_str hu) (ppsm_cons ppm_cap (ppsm_cons ppm_cap ppsm_nil)))) (psm_one (psm_ret (pem_call (c_is_below F) (bd.room.mono (by decide)) bd.gd (pass_tk bd.tk) (pam_cons (pem_var 6) (pam_cons (pem_gI (by rfl) F.k_MAX_POINTS) pam_nil)) (by rfl) (hlen := (len_cons (len_cons len_nil))))))
    pcm_nil)))))
    (psm_one (psm_ret pem_bl))))
theorem c_is_step (F : Fx K mg) : Cal P w K mg base 4 "is_step" 1 f_is_step := cal_of F.d_is_step z_is_step fun f cd A fr s H E bd => body_is_step F bd
theorem z__law_right : FnScope ["urn", "number", "frames", "situation", "step", "due", "at", "bad", "far"] ["urn"] (defScope (top 28)) := ⟨rfl, rfl, rfl, by decide +kernel, rfl, by decide +kernel, by decide +kernel⟩
theorem body__law_right (F : Fx K mg) {f : Addr} {cd : Value} {A : Around} {fr : List PySem.Env} {s : Shared} {H : Hp} {E : XK} (bd : Bd 5 (bX P w K mg base ["urn", "number", "frames", "situation", "step", "due", "at", "bad", "far"] "_law_right" (top 28) f cd A fr s H E) (fun cls d _ H => E cls d H)) :
    PSsm (bX P w K mg base ["urn", "number", "frames", "situation", "step", "due", "at", "bad", "far"] "_law_right" (top 28) f cd A fr s H E) (fun cls d _ H => E cls d H) (defBody (top 28)) b__law_right := by
  have hN := (z__law_right).nd
  have hu := bd.room.units
  unfold b__law_right
  exact (psm_cons (psm_asg (pem_call (c__law_situation F) (bd.room.mono (by decide)) bd.gd (pass_tk bd.tk) (pam_cons (pem_var 0) pam_nil) (by rfl) (hlen := (len_cons len_nil))) (pgm_tup rfl (pgsm_cons (pgm_name hN) (pgsm_cons (pgm_name hN) pgsm_nil))))
    (psm_cons (psm_par2 rfl hN (pam_cons (pem_tup (pam_cons (pem_var 1) (pam_cons (pem_callTy ct_tuple (pam_cons (pem_var 2) pam_nil) (by rfl) F.n_tuple (by rfl)) pam_nil))) (pam_cons (pem_call (c__law_step F) (bd.room.mono (by decide)) bd.gd (pass_tk bd.tk) (pam_cons (pem_var 0) pam_nil) (by rfl) (hlen := (len_cons len_nil))) pam_nil)))
    (psm_cons (psm_asg (pem_if (ptm_cmp (or_ne hu) (pem_var 2) (pem_lst pam_nil)) (pem_op or_add (pem_ix (pem_var 2) (pem_neg pem_int)) (pem_tup (pam_cons (pem_var 1) pam_nil))) (pem_tup (pam_cons (pem_var 1) pam_nil))) (pgm_name hN))
    (psm_cons (psm_if (ptm_bool (pwm_or (ptm_not (ptm_val (pem_call (c_is_situation F) (bd.room.mono (by decide)) bd.gd (pass_tk bd.tk) (pam_cons (pem_var 3) pam_nil) (by rfl) (hlen := (len_cons len_nil))))) (pwm_or (ptm_cmp (or_ne hu) (pem_callB (cb_repr bd.gd hu) (pam_cons (pem_call (c_spot_of F) (bd.room.mono (by decide)) bd.gd (pass_tk bd.tk) (pam_cons (pem_var 3) pam_nil) (by rfl) (hlen := (len_cons len_nil))) pam_nil) (by rfl) F.n_repr (by rfl)) (pem_callB (cb_repr bd.gd hu) (pam_cons (pem_var 5) pam_nil) (by rfl) F.n_repr (by rfl))) (pwm_or1 (ptm_not (ptm_val (pem_call (c_is_step F) (bd.room.mono (by decide)) bd.gd (pass_tk bd.tk) (pam_cons (pem_var 4) pam_nil) (by rfl) (hlen := (len_cons len_nil))))))))) (psm_one (psm_ret pem_bl)) psm_nil)
    (psm_cons (psm_if (ptm_bool (pwm_or (ptm_val (pem_call (c_is_step F) (bd.room.mono (by decide)) bd.gd (pass_tk bd.tk) (pam_cons (pem_call (c__law_spoilt F) (bd.room.mono (by decide)) bd.gd (pass_tk bd.tk) (pam_cons (pem_var 0) (pam_cons (pem_var 4) pam_nil)) (by rfl) (hlen := (len_cons (len_cons len_nil)))) pam_nil) (by rfl) (hlen := (len_cons len_nil)))) (pwm_or1 (ptm_val (pem_call (c_is_situation F) (bd.room.mono (by decide)) bd.gd (pass_tk bd.tk) (pam_cons (pem_call (c__law_spoilt F) (bd.room.mono (by decide)) bd.gd (pass_tk bd.tk) (pam_cons (pem_var 0) (pam_cons (pem_var 3) pam_nil)) (by rfl) (hlen := (len_cons (len_cons len_nil)))) pam_nil) (by rfl) (hlen := (len_cons len_nil))))))) (psm_one (psm_ret pem_bl)) psm_nil)
    (psm_cons (psm_if (ptm_cmp (or_ne hu) (pem_var 2) (pem_lst pam_nil)) (psm_cons (psm_asg (pem_call (c__law_take F) (bd.room.mono (by decide)) bd.gd (pass_tk bd.tk) (pam_cons (pem_var 0) (pam_cons (pem_callB cb_len (pam_cons (pem_var 2) pam_nil) (by rfl) F.n_len (by rfl)) pam_nil)) (by rfl) (hlen := (len_cons (len_cons len_nil)))) (pgm_name hN))
    (psm_cons (psm_asg (pem_call (c__law_spoilt F) (bd.room.mono (by decide)) bd.gd (pass_tk bd.tk) (pam_cons (pem_var 0) (pam_cons (pem_ix (pem_var 2) (pem_var 6)) pam_nil)) (by rfl) (hlen := (len_cons (len_cons len_nil)))) (pgm_name hN))
    (psm_one (psm_if (ptm_val (pem_call (c_is_situation F) (bd.room.mono (by decide)) bd.gd (pass_tk bd.tk) (pam_cons (pem_tup (pam_cons (pem_var 1) (pam_cons (pem_callTy ct_tuple (pam_cons (pem_op or_add (pem_op or_add (pem_sl (pem_var 2) pom_no (pom_at (pem_var 6))) (pem_lst (pam_cons (pem_var 7) pam_nil))) (pem_sl (pem_var 2) (pom_at (pem_op or_add (pem_var 6) pem_int)) pom_no)) pam_nil) (by rfl) F.n_tuple (by rfl)) pam_nil))) pam_nil) (by rfl) (hlen := (len_cons len_nil)))) (psm_one (psm_ret pem_bl)) psm_nil)))) psm_nil)
    (psm_cons (psm_asg (pem_op or_add (pem_var 2) (pem_lst (pam_cons (pem_tup (pam_cons (pem_call (c__law_name F) (bd.room.mono (by decide)) bd.gd (pass_tk bd.tk) (pam_cons (pem_var 0) pam_nil) (by rfl) (hlen := (len_cons len_nil))) (pam_cons (pem_call (c__law_one F) (bd.room.mono (by decide)) bd.gd (pass_tk bd.tk) (pam_cons (pem_var 0) (pam_cons (pem_lst (pam_cons pem_int (pam_cons pem_int pam_nil))) pam_nil)) (by rfl) (hlen := (len_cons (len_cons len_nil)))) pam_nil))) pam_nil))) (pgm_name hN))
    (psm_one (psm_ret (pem_and (pem_not (pem_call (c_is_situation F) (bd.room.mono (by decide)) bd.gd (pass_tk bd.tk) (pam_cons (pem_tup (pam_cons (pem_var 1) (pam_cons (pem_callTy ct_tuple (pam_cons (pem_var 8) pam_nil) (by rfl) F.n_tuple (by rfl)) pam_nil))) pam_nil) (by rfl) (hlen := (len_cons len_nil)))) (pem_and (pem_not (pem_call (c_is_situation F) (bd.room.mono (by decide)) bd.gd (pass_tk bd.tk) (pam_cons (pem_tup (pam_cons (pem_var 1) (pam_cons (pem_var 2) pam_nil))) pam_nil) (by rfl) (hlen := (len_cons len_nil)))) (pem_one (pem_not (pem_call (c_is_step F) (bd.room.mono (by decide)) bd.gd (pass_tk bd.tk) (pam_cons (pem_var 3) pam_nil) (by rfl) (hlen := (len_cons len_nil))))))))))))))))
theorem c__law_right (F : Fx K mg) : Cal P w K mg base 6 "_law_right" 1 f__law_right := cal_of F.d__law_right z__law_right fun f cd A fr s H E bd => body__law_right F bd
theorem z__law_urn : FnScope ["script", "at", "cell", "great", "seed"] ["script", "at"] (defScope (top 19)) := ⟨rfl, rfl, rfl, by decide +kernel, rfl, by decide +kernel, by decide +kernel⟩
theorem body__law_urn (F : Fx K mg) {f : Addr} {cd : Value} {A : Around} {fr : List PySem.Env} {s : Shared} {H : Hp} {E : XK} (bd : Bd 0 (bX P w K mg base ["script", "at", "cell", "great", "seed"] "_law_urn" (top 19) f cd A fr s H E) (fun cls d _ H => E cls d H)) :
    PSsm (bX P w K mg base ["script", "at", "cell", "great", "seed"] "_law_urn" (top 19) f cd A fr s H E) (fun cls d _ H => E cls d H) (defBody (top 19)) b__law_urn := by
  have hN := (z__law_urn).nd
  have hu := bd.room.units
  unfold b__law_urn
  exact (psm_cons (psm_asg (pem_if (ptm_cmp or_lt (pem_var 1) (pem_callB cb_len (pam_cons (pem_var 0) pam_nil) (by rfl) F.n_len (by rfl))) (pem_ix (pem_var 0) (pem_var 1)) (pem_op or_add (pem_op or_mul pem_int (pem_var 1)) pem_int)) (pgm_name hN))
    (psm_cons (psm_asg (pem_op or_mod (pem_callTy ct_int (pam_cons (pem_callB cb_abs (pam_cons (pem_var 2) pam_nil) (by rfl) F.n_abs (by rfl)) pam_nil) (by rfl) F.n_int (by rfl)) (pem_op or_pow (pem_op or_pow pem_int pem_int) pem_int)) (pgm_name hN))
    (psm_cons (psm_asg (pem_op or_mod (pem_callTy ct_int (pam_cons (pem_op or_add (pem_op or_add (pem_op or_add (pem_op or_mul (pem_var 3) pem_int) (pem_op or_mul pem_int (pem_var 1))) (pem_op or_mul pem_int (pem_callTy ct_int (pam_cons (pem_cmp or_lt (pem_var 2) pem_int) pam_nil) (by rfl) F.n_int (by rfl)))) pem_int) pam_nil) (by rfl) F.n_int (by rfl)) pem_int) (pgm_name hN))
    (psm_one (psm_ret (pem_lst (pam_cons (pem_callB (cb_max rfl) (pam_cons pem_int (pam_cons (pem_op or_sub (pem_var 3) (pem_op or_pow pem_int pem_int)) pam_nil)) (by rfl) F.n_max (by rfl)) (pam_cons (pem_var 4) (pam_cons pem_int pam_nil)))))))))
theorem c__law_urn (F : Fx K mg) : Cal P w K mg base 1 "_law_urn" 2 f__law_urn := cal_of F.d__law_urn z__law_urn fun f cd A fr s H E bd => body__law_urn F bd
theorem z_law : FnScope ["script", "at", "names", "odd", "right", "value", "name", "step"] ["script"] (defScope (top 30)) := ⟨rfl, rfl, rfl, by decide +kernel, rfl, by decide +kernel, by decide +kernel⟩
theorem body_law (F : Fx K mg) {f : Addr} {cd : Value} {A : Around} {fr : List PySem.Env} {s : Shared} {H : Hp} {E : XK} (bd : Bd 6 (bX P w K mg base ["script", "at", "names", "odd", "right", "value", "name", "step"] "law" (top 30) f cd A fr s H E) (fun cls d _ H => E cls d H)) :
    PSsm (bX P w K mg base ["script", "at", "names", "odd", "right", "value", "name", "step"] "law" (top 30) f cd A fr s H E) (fun cls d _ H => E cls d H) (defBody (top 30)) b_law := by
  have hN := (z_law).nd
  have hu := bd.room.units
  unfold b_law
  exact (psm_cons (psm_gc (psm_for bd.po rfl (pim_rg1 (pam_cons (pem_callB (cb_max rfl) (pam_cons pem_int (pam_cons (pem_callB (cb_min rfl) (pam_cons pem_int (pam_cons (pem_callB cb_len (pam_cons (pem_var 0) pam_nil) (by rfl) F.n_len (by rfl)) pam_nil)) (by rfl) F.n_min (by rfl)) pam_nil)) (by rfl) F.n_max (by rfl)) pam_nil) (by rfl) F.n_range) (pgm_name hN) (psm_one (psm_if (ptm_not (ptm_val (pem_call (c__law_right F) (bd.room.mono (by decide)) bd.gd (pass_tk bd.tk) (pam_cons (pem_call (c__law_urn F) (bd.room.mono (by decide)) bd.gd (pass_tk bd.tk) (pam_cons (pem_var 0) (pam_cons (pem_var 1) pam_nil)) (by rfl) (hlen := (len_cons (len_cons len_nil)))) pam_nil) (by rfl) (hlen := (len_cons len_nil))))) (psm_one (psm_ret pem_bl)) psm_nil))))
    (psm_cons (psm_asg (pem_lst (pam_cons pem_str (pam_cons pem_str (pam_cons pem_str (pam_cons pem_str (pam_cons pem_str (pam_cons pem_str pam_nil))))))) (pgm_name hN))
    (psm_cons (psm_asg (pem_lst (pam_cons pem_str (pam_cons pem_str (pam_cons pem_str (pam_cons pem_str (pam_cons pem_str (pam_cons pem_str (pam_cons pem_non (pam_cons pem_int (pam_cons (pem_tup (pam_cons pem_str pam_nil)) (pam_cons (pem_lst (pam_cons pem_str pam_nil)) (pam_cons pem_bl (pam_cons pem_dct (pam_cons pem_str pam_nil)))))))))))))) (pgm_name hN))
    (psm_cons (psm_if (ptm_bool (pwm_or (ptm_cmp (or_ne hu) (pem_lc (own := [(("name" : Str), 6)]) rfl hN (blk_ok (by kernel_rfl)) (pim_ls (pem_var 2)) (fun _ _ _ _ _ => (pgm_name hN)) (fun _ _ _ _ _ => (ptsm_one (ptm_not (ptm_val (pem_call (c_is_name F) (bd.room.mono (by decide)) bd.gd pass_0 (pam_cons (pem_var 6) pam_nil) (by rfl) (hlen := (len_cons len_nil))))))) (fun _ _ _ _ _ => (pem_var 6))) (pem_lst pam_nil)) (pwm_or1 (ptm_cmp (or_ne hu) (pem_lc (own := [(("name" : Str), 6)]) rfl hN (blk_ok (by kernel_rfl)) (pim_ls (pem_var 3)) (fun _ _ _ _ _ => (pgm_name hN)) (fun _ _ _ _ _ => (ptsm_one (ptm_val (pem_call (c_is_name F) (bd.room.mono (by decide)) bd.gd pass_0 (pam_cons (pem_var 6) pam_nil) (by rfl) (hlen := (len_cons len_nil)))))) (fun _ _ _ _ _ => (pem_var 6))) (pem_lst pam_nil))))) (psm_one (psm_ret pem_bl)) psm_nil)
    (psm_cons (psm_asg (pem_op or_add (pem_var 3) (pem_lst (pam_cons (pem_tup pam_nil) (pam_cons (pem_tup (pam_cons pem_int pam_nil)) (pam_cons (pem_tup (pam_cons pem_int (pam_cons (pem_tup pam_nil) pam_nil))) (pam_cons (pem_tup (pam_cons pem_int (pam_cons pem_non pam_nil))) (pam_cons (pem_tup (pam_cons pem_int (pam_cons (pem_tup (pam_cons (pem_tup (pam_cons pem_str (pam_cons pem_int (pam_cons pem_int pam_nil)))) pam_nil)) pam_nil))) (pam_cons (pem_tup (pam_cons (pem_tup pam_nil) (pam_cons pem_int pam_nil))) (pam_cons (pem_tup (pam_cons pem_bl (pam_cons (pem_tup pam_nil) pam_nil))) (pam_cons (pem_tup (pam_cons pem_int (pam_cons (pem_tup (pam_cons pem_str (pam_cons pem_int pam_nil))) pam_nil))) pam_nil)))))))))) (pgm_name hN))
    (psm_cons (psm_if (ptm_cmp (or_ne hu) (pem_lc (own := [(("value" : Str), 5)]) rfl hN (blk_ok (by kernel_rfl)) (pim_ls (pem_var 3)) (fun _ _ _ _ _ => (pgm_name hN)) (fun _ _ _ _ _ => (ptsm_one (ptm_bool (pwm_or (ptm_val (pem_call (c_is_situation F) (bd.room.mono (by decide)) bd.gd pass_0 (pam_cons (pem_var 5) pam_nil) (by rfl) (hlen := (len_cons len_nil)))) (pwm_or (ptm_val (pem_call (c_is_step F) (bd.room.mono (by decide)) bd.gd pass_0 (pam_cons (pem_var 5) pam_nil) (by rfl) (hlen := (len_cons len_nil)))) (pwm_or1 (ptm_not (ptm_val (pem_call (c__law_is_refused F) (bd.room.mono (by decide)) bd.gd pass_0 (pam_cons (pem_var 5) pam_nil) (by rfl) (hlen := (len_cons len_nil))))))))))) (fun _ _ _ _ _ => (pem_var 5))) (pem_lst pam_nil)) (psm_one (psm_ret pem_bl)) psm_nil)
    (psm_cons (psm_asg (pem_lst (pam_cons (pem_tup (pam_cons pem_str (pam_cons pem_str (pam_cons pem_int (pam_cons pem_int pam_nil))))) (pam_cons (pem_tup (pam_cons pem_str (pam_cons pem_str (pam_cons pem_int (pam_cons pem_int pam_nil))))) (pam_cons (pem_tup (pam_cons pem_str (pam_cons pem_str (pam_cons pem_int (pam_cons pem_str (pam_cons pem_int (pam_cons pem_int pam_nil))))))) (pam_cons (pem_tup (pam_cons pem_str (pam_cons pem_int (pam_cons pem_int pam_nil)))) pam_nil))))) (pgm_name hN))
    (psm_cons (psm_asg (pem_lst (pam_cons (pem_tup (pam_cons pem_str (pam_cons pem_str (pam_cons pem_int (pam_cons pem_int pam_nil))))) (pam_cons (pem_tup (pam_cons pem_str (pam_cons pem_str (pam_cons pem_int (pam_cons pem_int pam_nil))))) (pam_cons (pem_tup (pam_cons pem_str (pam_cons pem_str (pam_cons pem_int (pam_cons pem_str (pam_cons pem_int (pam_cons pem_int pam_nil))))))) (pam_cons (pem_tup (pam_cons pem_str (pam_cons pem_str (pam_cons pem_int (pam_cons pem_str (pam_cons pem_int (pam_cons pem_int pam_nil))))))) pam_nil))))) (pgm_name hN))
    (psm_cons (psm_asg (pem_op or_add (pem_var 3) (pem_lst (pam_cons (pem_tup (pam_cons pem_str (pam_cons pem_int (pam_cons pem_int pam_nil)))) (pam_cons (pem_tup (pam_cons pem_str (pam_cons pem_str (pam_cons pem_int (pam_cons pem_int pam_nil))))) (pam_cons (pem_tup (pam_cons pem_str (pam_cons pem_str (pam_cons pem_int (pam_cons pem_int pam_nil))))) (pam_cons (pem_tup (pam_cons pem_str (pam_cons pem_str (pam_cons pem_int pam_nil)))) (pam_cons (pem_tup (pam_cons pem_str (pam_cons pem_str (pam_cons pem_int (pam_cons pem_str (pam_cons pem_int pam_nil)))))) pam_nil))))))) (pgm_name hN))
    (psm_cons (psm_if (ptm_bool (pwm_or (ptm_cmp (or_ne hu) (pem_lc (own := [(("step" : Str), 7)]) rfl hN (blk_ok (by kernel_rfl)) (pim_ls (pem_var 4)) (fun _ _ _ _ _ => (pgm_name hN)) (fun _ _ _ _ _ => (ptsm_one (ptm_not (ptm_val (pem_call (c_is_step F) (bd.room.mono (by decide)) bd.gd pass_0 (pam_cons (pem_var 7) pam_nil) (by rfl) (hlen := (len_cons len_nil))))))) (fun _ _ _ _ _ => (pem_var 7))) (pem_lst pam_nil)) (pwm_or1 (ptm_cmp (or_ne hu) (pem_lc (own := [(("step" : Str), 7)]) rfl hN (blk_ok (by kernel_rfl)) (pim_ls (pem_var 3)) (fun _ _ _ _ _ => (pgm_name hN)) (fun _ _ _ _ _ => (ptsm_one (ptm_val (pem_call (c_is_step F) (bd.room.mono (by decide)) bd.gd pass_0 (pam_cons (pem_var 7) pam_nil) (by rfl) (hlen := (len_cons len_nil)))))) (fun _ _ _ _ _ => (pem_var 7))) (pem_lst pam_nil))))) (psm_one (psm_ret pem_bl)) psm_nil)
    (psm_one (psm_ret (pem_and (pem_cmp (or_eq hu) (pem_call (c_spot_of F) (bd.room.mono (by decide)) bd.gd (pass_tk bd.tk) (pam_cons (pem_tup (pam_cons pem_int (pam_cons (pem_tup (pam_cons (pem_tup (pam_cons pem_str (pam_cons pem_int pam_nil))) (pam_cons (pem_tup (pam_cons pem_str (pam_cons pem_int pam_nil))) pam_nil))) pam_nil))) pam_nil) (by rfl) (hlen := (len_cons len_nil))) (pem_tup (pam_cons pem_str (pam_cons pem_int (pam_cons pem_int pam_nil))))) (pem_one (pem_cmp (or_eq hu) (pem_call (c_spot_of F) (bd.room.mono (by decide)) bd.gd (pass_tk bd.tk) (pam_cons (pem_tup (pam_cons pem_int (pam_cons (pem_tup pam_nil) pam_nil))) pam_nil) (by rfl) (hlen := (len_cons len_nil))) (pem_tup (pam_cons pem_int pam_nil)))))))))))))))))
theorem c_law (F : Fx K mg) : Cal P w K mg base 7 "law" 1 f_law := cal_of F.d_law z_law fun f cd A fr s H E bd => body_law F bd
end
end K01

set_option Elab.async false
set_option linter.all false
set_option maxRecDepth 100000
set_option maxHeartbeats 0
namespace K01
open PySem PySem.Spec PyProof.Rows L2 Sm
def dI (i : Nat) (x : Str) : He.DefD := ⟨(x, none), x, x, defArgs (top i), defBody (top i), defScope (top i), [], []⟩
def fn : List He.DefD := [dI 10 "is_integer", dI 11 "is_below", dI 12 "is_name", dI 13 "is_pair", dI 14 "is_situation", dI 16 "spot_by", dI 17 "spot_of", dI 29 "_law_is_refused", dI 20 "_law_take", dI 23 "_law_name", dI 21 "_law_one", dI 25 "_law_situation", dI 27 "_law_spoilt", dI 26 "_law_step", dI 15 "is_step", dI 28 "_law_right", dI 19 "_law_urn", dI 30 "law"]
def fa : List He.Fa := [.free "abs", .free "all", .free "bool", .free "int", .free "isinstance", .free "len", .free "list", .free "max", .free "min", .free "range", .free "repr", .free "str", .free "tuple", .str "LETTERS" "abcdefghijklmnopqrstuvwxyz", .int "MAX_LETTERS" 8, .int "MAX_MOVES" 12, .int "MAX_POINTS" 6, .int "MAX_SIZE" 5, .int "TOP" 10000000000000000000000000000000000000000, .glo "is_integer", .glo "is_below", .glo "is_name", .glo "is_pair", .glo "is_situation", .glo "spot_by", .glo "spot_of", .glo "_law_is_refused", .glo "_law_take", .glo "_law_name", .glo "_law_one", .glo "_law_situation", .glo "_law_spoilt", .glo "_law_step", .glo "is_step", .glo "_law_right", .glo "_law_urn", .glo "law", .exc "InvalidSituation", .glo "InvalidSituation", .exm "InvalidSituation" "InvalidSituation" true]
abbrev R : PySem.W.OpenRow := PySem.W.OpenLaw.row PySem.Challenge.rw_stepmarks_k01_names_situations_steps
abbrev hk : PySem.W.Hook := He.hookD 4 fa fn
def ob (s : PySem.W.SharedT) : He.AlD := He.obsDG 4 fa fn (HandSHeadRun.getT s)
theorem ob_eq (s : PySem.W.SharedT) : ob s = hk.obs s.abs := He.obsDG_eq (HandSHeadRun.getT_eq s)
def loose : List PySem.Str := ([("StepError" : PySem.Str), ("InvalidSituation" : PySem.Str), ("LETTERS" : PySem.Str), ("MAX_LETTERS" : PySem.Str), ("MAX_SIZE" : PySem.Str), ("MAX_POINTS" : PySem.Str), ("MAX_MOVES" : PySem.Str), ("TOP" : PySem.Str), ("is_integer" : PySem.Str), ("is_below" : PySem.Str), ("is_name" : PySem.Str), ("is_pair" : PySem.Str), ("is_situation" : PySem.Str), ("is_step" : PySem.Str), ("spot_by" : PySem.Str), ("spot_of" : PySem.Str), ("_law_urn" : PySem.Str), ("_law_take" : PySem.Str), ("_law_one" : PySem.Str), ("_law_some" : PySem.Str), ("_law_name" : PySem.Str), ("_law_names" : PySem.Str), ("_law_situation" : PySem.Str), ("_law_step" : PySem.Str), ("_law_spoilt" : PySem.Str), ("_law_right" : PySem.Str), ("_law_is_refused" : PySem.Str)] : List PySem.Str)
theorem run (w : World) : HandSHeadRun.RunEq R (PySem.W.view R.prog [30]) hk ob 2000 loose w := by
  intro os
  kernel_rfl
theorem fx_of {K : PySem.W.Frag} {h : Heap} {mg : Str → Option Value} (X : K.In h) (G : h.Ns mainGlobals mg) (c : He.SaysD fa fn K) : Fx K mg where
  n_abs := He.free_ok X G (c.fact 0 (f := .free "abs") rfl)
  n_all := He.free_ok X G (c.fact 1 (f := .free "all") rfl)
  n_bool := He.free_ok X G (c.fact 2 (f := .free "bool") rfl)
  n_int := He.free_ok X G (c.fact 3 (f := .free "int") rfl)
  n_isinstance := He.free_ok X G (c.fact 4 (f := .free "isinstance") rfl)
  n_len := He.free_ok X G (c.fact 5 (f := .free "len") rfl)
  n_list := He.free_ok X G (c.fact 6 (f := .free "list") rfl)
  n_max := He.free_ok X G (c.fact 7 (f := .free "max") rfl)
  n_min := He.free_ok X G (c.fact 8 (f := .free "min") rfl)
  n_range := He.free_ok X G (c.fact 9 (f := .free "range") rfl)
  n_repr := He.free_ok X G (c.fact 10 (f := .free "repr") rfl)
  n_str := He.free_ok X G (c.fact 11 (f := .free "str") rfl)
  n_tuple := He.free_ok X G (c.fact 12 (f := .free "tuple") rfl)
  k_LETTERS := He.str_ok X G (c.fact 13 (f := .str "LETTERS" "abcdefghijklmnopqrstuvwxyz") rfl)
  k_MAX_LETTERS := He.int_ok X G (c.fact 14 (f := .int "MAX_LETTERS" 8) rfl)
  k_MAX_MOVES := He.int_ok X G (c.fact 15 (f := .int "MAX_MOVES" 12) rfl)
  k_MAX_POINTS := He.int_ok X G (c.fact 16 (f := .int "MAX_POINTS" 6) rfl)
  k_MAX_SIZE := He.int_ok X G (c.fact 17 (f := .int "MAX_SIZE" 5) rfl)
  k_TOP := He.int_ok X G (c.fact 18 (f := .int "TOP" 10000000000000000000000000000000000000000) rfl)
  d_is_integer := defAt_mk (ps := ["value"]) (c.def_ 0 (d := dI 10 "is_integer") rfl) (He.glo_ok X G (c.fact 19 (f := .glo "is_integer") rfl)) fun _ _ _ _ _ _ us hl => match us, hl with | [_], _ => rfl
  d_is_below := defAt_mk (ps := ["value", "limit"]) (c.def_ 1 (d := dI 11 "is_below") rfl) (He.glo_ok X G (c.fact 20 (f := .glo "is_below") rfl)) fun _ _ _ _ _ _ us hl => match us, hl with | [_, _], _ => rfl
  d_is_name := defAt_mk (ps := ["value"]) (c.def_ 2 (d := dI 12 "is_name") rfl) (He.glo_ok X G (c.fact 21 (f := .glo "is_name") rfl)) fun _ _ _ _ _ _ us hl => match us, hl with | [_], _ => rfl
  d_is_pair := defAt_mk (ps := ["value", "limit"]) (c.def_ 3 (d := dI 13 "is_pair") rfl) (He.glo_ok X G (c.fact 22 (f := .glo "is_pair") rfl)) fun _ _ _ _ _ _ us hl => match us, hl with | [_, _], _ => rfl
  d_is_situation := defAt_mk (ps := ["value"]) (c.def_ 4 (d := dI 14 "is_situation") rfl) (He.glo_ok X G (c.fact 23 (f := .glo "is_situation") rfl)) fun _ _ _ _ _ _ us hl => match us, hl with | [_], _ => rfl
  d_spot_by := defAt_mk (ps := ["situation"]) (c.def_ 5 (d := dI 16 "spot_by") rfl) (He.glo_ok X G (c.fact 24 (f := .glo "spot_by") rfl)) fun _ _ _ _ _ _ us hl => match us, hl with | [_], _ => rfl
  d_spot_of := defAt_mk (ps := ["situation"]) (c.def_ 6 (d := dI 17 "spot_of") rfl) (He.glo_ok X G (c.fact 25 (f := .glo "spot_of") rfl)) fun _ _ _ _ _ _ us hl => match us, hl with | [_], _ => rfl
  d__law_is_refused := defAt_mk (ps := ["value"]) (c.def_ 7 (d := dI 29 "_law_is_refused") rfl) (He.glo_ok X G (c.fact 26 (f := .glo "_law_is_refused") rfl)) fun _ _ _ _ _ _ us hl => match us, hl with | [_], _ => rfl
  d__law_take := defAt_mk (ps := ["urn", "total"]) (c.def_ 8 (d := dI 20 "_law_take") rfl) (He.glo_ok X G (c.fact 27 (f := .glo "_law_take") rfl)) fun _ _ _ _ _ _ us hl => match us, hl with | [_, _], _ => rfl
  d__law_name := defAt_mk (ps := ["urn"]) (c.def_ 9 (d := dI 23 "_law_name") rfl) (He.glo_ok X G (c.fact 28 (f := .glo "_law_name") rfl)) fun _ _ _ _ _ _ us hl => match us, hl with | [_], _ => rfl
  d__law_one := defAt_mk (ps := ["urn", "items"]) (c.def_ 10 (d := dI 21 "_law_one") rfl) (He.glo_ok X G (c.fact 29 (f := .glo "_law_one") rfl)) fun _ _ _ _ _ _ us hl => match us, hl with | [_, _], _ => rfl
  d__law_situation := defAt_mk (ps := ["urn"]) (c.def_ 11 (d := dI 25 "_law_situation") rfl) (He.glo_ok X G (c.fact 30 (f := .glo "_law_situation") rfl)) fun _ _ _ _ _ _ us hl => match us, hl with | [_], _ => rfl
  d__law_spoilt := defAt_mk (ps := ["urn", "row"]) (c.def_ 12 (d := dI 27 "_law_spoilt") rfl) (He.glo_ok X G (c.fact 31 (f := .glo "_law_spoilt") rfl)) fun _ _ _ _ _ _ us hl => match us, hl with | [_, _], _ => rfl
  d__law_step := defAt_mk (ps := ["urn"]) (c.def_ 13 (d := dI 26 "_law_step") rfl) (He.glo_ok X G (c.fact 32 (f := .glo "_law_step") rfl)) fun _ _ _ _ _ _ us hl => match us, hl with | [_], _ => rfl
  d_is_step := defAt_mk (ps := ["value"]) (c.def_ 14 (d := dI 15 "is_step") rfl) (He.glo_ok X G (c.fact 33 (f := .glo "is_step") rfl)) fun _ _ _ _ _ _ us hl => match us, hl with | [_], _ => rfl
  d__law_right := defAt_mk (ps := ["urn"]) (c.def_ 15 (d := dI 28 "_law_right") rfl) (He.glo_ok X G (c.fact 34 (f := .glo "_law_right") rfl)) fun _ _ _ _ _ _ us hl => match us, hl with | [_], _ => rfl
  d__law_urn := defAt_mk (ps := ["script", "at"]) (c.def_ 16 (d := dI 19 "_law_urn") rfl) (He.glo_ok X G (c.fact 35 (f := .glo "_law_urn") rfl)) fun _ _ _ _ _ _ us hl => match us, hl with | [_, _], _ => rfl
  d_law := defAt_mk (ps := ["script"]) (c.def_ 17 (d := dI 30 "law") rfl) (He.glo_ok X G (c.fact 36 (f := .glo "law") rfl)) fun _ _ _ _ _ _ us hl => match us, hl with | [_], _ => rfl
  e_InvalidSituation := exc_mk (c.fact 37 (f := .exc "InvalidSituation") rfl) (He.glo_ok X G (c.fact 38 (f := .glo "InvalidSituation") rfl))
  t_InvalidSituation := ⟨_, He.glo_ok X G (c.fact 38 (f := .glo "InvalidSituation") rfl), subAt_mk (.cons (He.glo_ok X G (c.fact 38 (f := .glo "InvalidSituation") rfl)) (He.exm_ok (c.fact 39 (f := .exm "InvalidSituation" "InvalidSituation" true) rfl)) .nil)⟩
theorem holds (good : ∀ ns : List Int, ns.length ≤ 63 → ∃ st, f_law [.rl (ns.map .int)] [] = .ok (.bl true) st) : PySem.Challenge.rw_stepmarks_k01_names_situations_steps.Holds := by
  w_on; o_law
  refine HandSHeadRun.head_any (r := PySem.W.OpenLaw.row PySem.Challenge.rw_stepmarks_k01_names_situations_steps) (q := PySem.W.view (PySem.W.OpenLaw.row PySem.Challenge.rw_stepmarks_k01_names_situations_steps).prog [30]) (H := hk) (ob := ob) (M := 2000) (loose := loose) (d := HandSHeadRun.topDef (PySem.W.OpenLaw.row PySem.Challenge.rw_stepmarks_k01_names_situations_steps).prog 30) (kwd := []) ob_eq
    (by kernel_rfl) (fun s => by kernel_rfl) run (by kernel_rfl) (by kernel_rfl) (by kernel_rfl) (by rfl) (by first | assumption | decide +kernel) (by decide +kernel) ⟨rfl, rfl, rfl, rfl, rfl, by decide +kernel⟩ ?hw ?hc
  case hw => w_witness2
  case hc =>
    refine walk_g (l := PySem.Challenge.rw_stepmarks_k01_names_situations_steps) (n := 63) (k := 7) (x := "script") (mf := f_law) rfl (by decide) (by kernel_rfl) ⟨rfl, by decide, by decide⟩ ?F good
    intro w mg fa h Y G hm0
    obtain ⟨K, X, c⟩ := Y
    have hm : mg ("law" : PySem.Str) = some (.ref fa) := by
      have e : (HandSHeadRun.topDef (PySem.W.OpenLaw.row PySem.Challenge.rw_stepmarks_k01_names_situations_steps).prog 30).name = ("law" : PySem.Str) := by kernel_rfl
      rw [← e]
      exact hm0
    have F := fx_of X G c
    obtain ⟨f, fd, FN, em, eb⟩ := F.d_law
    have e1 : f = fa := by
      rw [hm] at em
      cases em
      rfl
    subst e1
    refine ⟨K, fd, X, fun s u => ?_, fun base _ _ => ?_⟩
    · exact bind_of FN (fun _ _ _ _ _ _ us hl => match us, hl with | [_], _ => rfl) s u
    · exact fng_of FN z_law (fun cd A fr s H E bd => body_law F bd)
end K01

theorem PySem.Challenge.cw_stepmarks_k01_names_situations_steps_holds : PySem.Challenge.rw_stepmarks_k01_names_situations_steps.Holds :=
  K01.holds K01.good
