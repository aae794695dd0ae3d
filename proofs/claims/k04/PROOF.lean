import PyProof.Rows.All
import Wide.All
import OpenK.AllK
import Wide.FinOn
import KE.KStateDown
import Lean
import HandS.ForMost
import HandS.Exc
import HandS.ExcOwn
import HandS.TryOnly
import HandS.WordsExc
import HandS.Defaults
import HandS.Walk
import HandS.Conv
import HandS.IsInst
import HandS.TupAny
import HandS.Flow
import HandS.Deep
import HandS.Head0
import HandS.Head1
import HandS.Head2
import HandS.HeadEnd
import HandS.HeadHook1
import HandS.HeadHook2
import HandS.Style
import PyProof.FactsAll.dict
import HandS.HeadNt
import PyProof.ExcBaseAll.ValueError
import HandS.Property
import HandS.MakeKwOnly
import HandS.SetBool
import KE.GoesEnum
import HandS.Zip
import HandS.SlotsOwn
import HandS.OwnEq
import PyProof.InstNe
import KE.KCallOwn
import HandS.FStr
import HandS.DictComp
import HandS.ListItems
import KE.KRevSl
import HandS.Star
import HandS.ClsMeth
import PySem.Challenge.RW_stepmarks_k04_programs_by_their_form
set_option Elab.async false
set_option linter.all false
set_option maxRecDepth 100000
set_option maxHeartbeats 4000000
/-! Sm: a state-passing reading of the text: tuples are plain values, lists and dicts stand in a small heap of their own. -/
namespace Sm
open L2 PySem PySem.Spec

/-! ### values, objects, the small heap -/
inductive IV where
  | non | bl (b : Bool) | int (i : Int) | str (x : Str)
  | tup (xs : List IV)
  | rl (xs : List IV)
  | ref (a : Nat)
  /-- an instance that is not written any more: its class's name, its fields' names and values -/
  | obj (c : Str) (ns : List Str) (xs : List IV)
  /-- a dict that is never written: its keys, its values -/
  | fd (ks : List L2.Key) (xs : List IV)
  /-- a class of the module -/
  | cls (c : Str)
inductive IO where
  | lst (xs : List IV)
  | dct (kvs : List (L2.Key × IV))
  | ins (c : Str) (ns : List Str) (xs : List IV)
abbrev Hs := List IO

/-- a list that is only read -/
def RolA (K : PySem.W.Frag) (H : Hp) (a : Addr) (xs : List V) : Prop :=
  (∃ o, H a = some (.frz o (.lst xs))) ∨
    ∃ (o : Obj) (its : Array Value) (n : Nat), K.lookup a = some o ∧ o.cls = .type "list" ∧ o.dict = none ∧ o.data = .seq its n ∧ its.size ≤ sizeLine ∧ Vals xs its.toList
theorem RolA.sq {K : PySem.W.Frag} {H : Hp} {a : Addr} {xs : List V} (h : RolA K H a xs) : SqL K H a xs := by
  rcases h with ⟨o, h⟩ | h
  · exact .inl (.inr ⟨o, h⟩)
  · exact .inr h

mutual
inductive RV (K : PySem.W.Frag) (H : Hp) (r : List Addr) : IV → V → Prop where
  | non : RV K H r .non .non
  | bl (b : Bool) : RV K H r (.bl b) (.bl b)
  | int (i : Int) : RV K H r (.int i) (.int i)
  | str (x : Str) : RV K H r (.str x) (.str x)
  | tup {p : Addr} {vs : List V} {xs : List IV} : SqT K H p vs → RVs K H r xs vs → RV K H r (.tup xs) (.ref p)
  | rl {p : Addr} {vs : List V} {xs : List IV} : RolA K H p vs → RVs K H r xs vs → RV K H r (.rl xs) (.ref p)
  | ref {a : Nat} {p : Addr} : r[a]? = some p → RV K H r (.ref a) (.ref p)
  | obj {c : Str} {ns : List Str} {p dx : Addr} {fs : List (Str × V)} {vs : List V} {xs : List IV} : H p = some (.ins (He.ga K c) dx fs) → p ∉ r → H dx = some (.own p) → dx ∉ r → fs.map (·.1) = ns → fs.map (·.2) = vs → RVs K H r xs vs → RV K H r (.obj c ns xs) (.ref p)
  | fd {p : Addr} {od : Obj} {dk : List (L2.Key × V)} {ks : List L2.Key} {vs : List V} {xs : List IV} : H p = some (.frz od (.dK dk)) → dk.map (·.1) = ks → dk.map (·.2) = vs → RVs K H r xs vs → RV K H r (.fd ks xs) (.ref p)
  | cls {c : Str} {p : Addr} {o : Obj} : p = He.ga K c → K.lookup p = some o → o.cls ≠ .type "tuple" → o.cls ≠ .type "list" → RV K H r (.cls c) (.ref p)
inductive RVs (K : PySem.W.Frag) (H : Hp) (r : List Addr) : List IV → List V → Prop where
  | nil : RVs K H r [] []
  | cons {x : IV} {v : V} {xs : List IV} {vs : List V} : RV K H r x v → RVs K H r xs vs → RVs K H r (x :: xs) (v :: vs)
end

/-- an object of the small heap at an address -/
def RO (K : PySem.W.Frag) (H : Hp) (r : List Addr) : IO → Addr → Prop
  | .lst xs, p => ∃ vs, H p = some (.lst vs) ∧ RVs K H r xs vs
  | .dct kvs, p => ∃ dk : List (L2.Key × V), H p = some (.dK dk) ∧ dk.map (·.1) = kvs.map (·.1) ∧ RVs K H r (kvs.map (·.2)) (dk.map (·.2))
  | .ins c ns xs, p => ∃ dx fs, H p = some (.ins (He.ga K c) dx fs) ∧ H dx = some (.own p) ∧ dx ∉ r ∧ fs.map (·.1) = ns ∧ RVs K H r xs (fs.map (·.2))

structure Mt (K : PySem.W.Frag) (H : Hp) (r : List Addr) (st : Hs) : Prop where
  len : r.length = st.length
  nd : r.Nodup
  at_ : ∀ (i : Nat) (o : IO) (p : Addr), st[i]? = some o → r[i]? = some p → RO K H r o p

/-- later: more addresses; what was tracked outside them stands as it was -/
structure Xt (r : List Addr) (H : Hp) (r' : List Addr) (H' : Hp) : Prop where
  pre : ∃ t, r' = r ++ t
  fr : ∀ p o, H p = some o → p ∉ r → H' p = some o ∧ p ∉ r'

theorem Xt.refl {r : List Addr} {H : Hp} : Xt r H r H := ⟨⟨[], by simp⟩, fun _ _ h n => ⟨h, n⟩⟩
theorem Xt.trans {r r1 r2 : List Addr} {H H1 H2 : Hp} (a : Xt r H r1 H1) (b : Xt r1 H1 r2 H2) : Xt r H r2 H2 := by
  obtain ⟨t, e⟩ := a.pre
  obtain ⟨u, e'⟩ := b.pre
  refine ⟨⟨t ++ u, by rw [e', e, List.append_assoc]⟩, fun p o h n => ?_⟩
  obtain ⟨h1, n1⟩ := a.fr p o h n
  exact b.fr p o h1 n1
theorem Xt.get {r r' : List Addr} {H H' : Hp} (x : Xt r H r' H') {a : Nat} {p : Addr} (h : r[a]? = some p) : r'[a]? = some p := by
  obtain ⟨t, e⟩ := x.pre
  rw [e, List.getElem?_append_left (List.getElem?_eq_some_iff.mp h).1]
  exact h

theorem RO.mut {K : PySem.W.Frag} {H : Hp} {r : List Addr} {o : IO} {p : Addr} (h : RO K H r o p) : Mut (H p) := by
  cases o with
  | lst xs =>
    obtain ⟨vs, e, _⟩ := h
    rw [e]; trivial
  | dct kvs =>
    obtain ⟨dk, e, _⟩ := h
    rw [e]; trivial
  | ins c ns xs =>
    obtain ⟨dx, fs, e, _⟩ := h
    rw [e]; trivial
theorem Mt.mut {K : PySem.W.Frag} {H : Hp} {r : List Addr} {st : Hs} (m : Mt K H r st) {p : Addr} (h : p ∈ r) : Mut (H p) := by
  obtain ⟨i, hi, e⟩ := List.getElem_of_mem h
  have hi' : i < st.length := by rw [← m.len]; exact hi
  exact (m.at_ i st[i] p (by simp [hi']) (by simp [hi, e])).mut
theorem Mt.out {K : PySem.W.Frag} {H : Hp} {r : List Addr} {st : Hs} (m : Mt K H r st) {p : Addr} {o : HO} (h : H p = some o) (n : ¬ Mut (some o)) : p ∉ r := fun hp => by
  have q := m.mut hp
  rw [h] at q
  exact n q
theorem Xt.sqT {K : PySem.W.Frag} {r r' : List Addr} {H H' : Hp} {st : Hs} (x : Xt r H r' H') (m : Mt K H r st) {p : Addr} {vs : List V} (h : SqT K H p vs) : SqT K H' p vs := by
  rcases h with (h | ⟨o, h⟩) | h
  · exact .inl (.inl (x.fr p _ h (m.out h fun z => z)).1)
  · exact .inl (.inr ⟨o, (x.fr p _ h (m.out h fun z => z)).1⟩)
  · exact .inr h

theorem Xt.rol {K : PySem.W.Frag} {r r' : List Addr} {H H' : Hp} {st : Hs} (x : Xt r H r' H') (m : Mt K H r st) {p : Addr} {vs : List V} (h : RolA K H p vs) : RolA K H' p vs := by
  rcases h with ⟨o, h⟩ | h
  · exact .inl ⟨o, (x.fr p _ h (m.out h fun z => z)).1⟩
  · exact .inr h

mutual
theorem RV.mono {K : PySem.W.Frag} {r r' : List Addr} {H H' : Hp} {st : Hs} (x : Xt r H r' H') (m : Mt K H r st) : ∀ {a : IV} {v : V}, RV K H r a v → RV K H' r' a v
  | _, _, .non => .non
  | _, _, .bl b => .bl b
  | _, _, .int i => .int i
  | _, _, .str y => .str y
  | _, _, .tup h hs => .tup (x.sqT m h) (RVs.mono x m hs)
  | _, _, .rl h hs => .rl (x.rol m h) (RVs.mono x m hs)
  | _, _, .ref h => .ref (x.get h)
  | _, _, .obj h n h2 n2 e e2 hs => .obj (x.fr _ _ h n).1 (x.fr _ _ h n).2 (x.fr _ _ h2 n2).1 (x.fr _ _ h2 n2).2 e e2 (RVs.mono x m hs)
  | _, _, .fd h e e2 hs => .fd (x.fr _ _ h (m.out h fun z => z)).1 e e2 (RVs.mono x m hs)
  | _, _, .cls e h a b => .cls e h a b
theorem RVs.mono {K : PySem.W.Frag} {r r' : List Addr} {H H' : Hp} {st : Hs} (x : Xt r H r' H') (m : Mt K H r st) : ∀ {a : List IV} {v : List V}, RVs K H r a v → RVs K H' r' a v
  | _, _, .nil => .nil
  | _, _, .cons h hs => .cons (RV.mono x m h) (RVs.mono x m hs)
end

theorem RVs.length {K : PySem.W.Frag} {H : Hp} {r : List Addr} : ∀ {xs : List IV} {vs : List V}, RVs K H r xs vs → xs.length = vs.length
  | _, _, .nil => rfl
  | _, _, .cons _ h => congrArg Nat.succ h.length
theorem RVs.get {K : PySem.W.Frag} {H : Hp} {r : List Addr} : ∀ {xs : List IV} {vs : List V} {i : Nat} {x : IV}, RVs K H r xs vs → xs[i]? = some x → ∃ v, vs[i]? = some v ∧ RV K H r x v
  | _, _, _, _, .nil, e => by simp at e
  | _, _, 0, _, .cons h _, e => by simp at e; subst e; exact ⟨_, rfl, h⟩
  | _, _, i + 1, x, .cons _ h, e => by
    obtain ⟨v, h1, h2⟩ := RVs.get (i := i) (x := x) h (by simpa using e)
    exact ⟨v, by simpa using h1, h2⟩
theorem RVs.getV {K : PySem.W.Frag} {H : Hp} {r : List Addr} : ∀ {xs : List IV} {vs : List V} {i : Nat} {v : V}, RVs K H r xs vs → vs[i]? = some v → ∃ x, xs[i]? = some x ∧ RV K H r x v
  | _, _, _, _, .nil, e => by simp at e
  | _, _, 0, _, .cons h _, e => by simp at e; subst e; exact ⟨_, rfl, h⟩
  | _, _, i + 1, x, .cons _ h, e => by
    obtain ⟨v, h1, h2⟩ := RVs.getV (i := i) (v := x) h (by simpa using e)
    exact ⟨v, by simpa using h1, h2⟩
theorem RVs.append {K : PySem.W.Frag} {H : Hp} {r : List Addr} : ∀ {xs ys : List IV} {vs ws : List V}, RVs K H r xs vs → RVs K H r ys ws → RVs K H r (xs ++ ys) (vs ++ ws)
  | _, _, _, _, .nil, s => s
  | _, _, _, _, .cons h t, s => .cons h (RVs.append t s)
theorem RVs.set {K : PySem.W.Frag} {H : Hp} {r : List Addr} {x : IV} {v : V} (q : RV K H r x v) : ∀ {xs : List IV} {vs : List V} (i : Nat), RVs K H r xs vs → RVs K H r (xs.set i x) (vs.set i v)
  | _, _, _, .nil => .nil
  | _, _, 0, .cons _ t => .cons q t
  | _, _, i + 1, .cons p t => .cons p (RVs.set q i t)
theorem RVs.take {K : PySem.W.Frag} {H : Hp} {r : List Addr} : ∀ {xs : List IV} {vs : List V} (n : Nat), RVs K H r xs vs → RVs K H r (xs.take n) (vs.take n)
  | _, _, 0, _ => .nil
  | _, _, _ + 1, .nil => .nil
  | _, _, n + 1, .cons q t => .cons q (RVs.take n t)
theorem RVs.drop {K : PySem.W.Frag} {H : Hp} {r : List Addr} : ∀ {xs : List IV} {vs : List V} (n : Nat), RVs K H r xs vs → RVs K H r (xs.drop n) (vs.drop n)
  | _, _, 0, q => q
  | _, _, _ + 1, .nil => .nil
  | _, _, n + 1, .cons _ t => RVs.drop n t
theorem RVs.erase {K : PySem.W.Frag} {H : Hp} {r : List Addr} : ∀ {xs : List IV} {vs : List V} (n : Nat), RVs K H r xs vs → RVs K H r (xs.eraseIdx n) (vs.eraseIdx n)
  | _, _, _, .nil => .nil
  | _, _, 0, .cons _ t => t
  | _, _, n + 1, .cons q t => .cons q (RVs.erase n t)

theorem RO.mono {K : PySem.W.Frag} {r r' : List Addr} {H H' : Hp} {st : Hs} (x : Xt r H r' H') (m : Mt K H r st) {o : IO} {p : Addr} (h : RO K H r o p) (e : H' p = H p) : RO K H' r' o p := by
  cases o with
  | lst xs =>
    obtain ⟨vs, e1, h⟩ := h
    exact ⟨vs, e.trans e1, h.mono x m⟩
  | dct kvs =>
    obtain ⟨dk, e1, e2, hs⟩ := h
    exact ⟨dk, e.trans e1, e2, hs.mono x m⟩
  | ins c ns xs =>
    obtain ⟨dx, fs, e1, e2, n2, e3, hs⟩ := h
    exact ⟨dx, fs, e.trans e1, (x.fr _ _ e2 n2).1, (x.fr _ _ e2 n2).2, e3, hs.mono x m⟩

/-- a new address beside, untracked by the small heap -/
theorem Xt.aside {r : List Addr} {H : Hp} {p : Addr} {o : HO} (n : H p = none) : Xt r H r (upd H p o) :=
  ⟨⟨[], by simp⟩, fun q u h hn => ⟨by rw [upd_ne (ne_of_none h n)]; exact h, hn⟩⟩
theorem Mt.aside {K : PySem.W.Frag} {H : Hp} {r : List Addr} {st : Hs} (m : Mt K H r st) {p : Addr} {o : HO} (n : H p = none) : Mt K (upd H p o) r st :=
  ⟨m.len, m.nd, fun i u q h1 h2 => (m.at_ i u q h1 h2).mono (Xt.aside n) m (upd_ne fun z => by
    have w := m.mut (List.mem_of_getElem? h2)
    rw [z, n] at w
    exact w)⟩
/-- a new object of the small heap -/
theorem Xt.new {r : List Addr} {H : Hp} {p : Addr} {o : HO} (n : H p = none) : Xt r H (r ++ [p]) (upd H p o) :=
  ⟨⟨[p], rfl⟩, fun q u h hn => ⟨by rw [upd_ne (ne_of_none h n)]; exact h, by
    rw [List.mem_append, List.mem_singleton]
    exact fun z => z.elim hn (ne_of_none h n)⟩⟩
theorem Mt.new {K : PySem.W.Frag} {H : Hp} {r : List Addr} {st : Hs} (m : Mt K H r st) {p : Addr} {o : HO} {u : IO} (n : H p = none) (h : RO K (upd H p o) (r ++ [p]) u p) : Mt K (upd H p o) (r ++ [p]) (st ++ [u]) := by
  have hp : p ∉ r := fun z => by
    have w := m.mut z
    rw [n] at w
    exact w
  refine ⟨by simp [m.len], List.nodup_append.mpr ⟨m.nd, by simp, fun a ha b hb => ?_⟩, fun i v q h1 h2 => ?_⟩
  · rw [List.mem_singleton] at hb
    subst hb
    intro z
    exact hp (z ▸ ha)
  · by_cases hi : i < st.length
    · rw [List.getElem?_append_left hi] at h1
      rw [List.getElem?_append_left (by rw [m.len]; exact hi)] at h2
      exact (m.at_ i v q h1 h2).mono (Xt.new n) m (upd_ne fun z => hp (z ▸ List.mem_of_getElem? h2))
    · have e : i = st.length := by
        have := (List.getElem?_eq_some_iff.mp h1).1
        simp at this
        omega
      subst e
      simp at h1
      rw [← m.len] at h2
      simp at h2
      subst h1 h2
      exact h
theorem RV.last {K : PySem.W.Frag} {H H' : Hp} {r : List Addr} {st : Hs} (m : Mt K H r st) {p : Addr} : RV K H' (r ++ [p]) (.ref st.length) (.ref p) := .ref (by rw [← m.len]; simp)
/-- an object of the small heap is written -/
theorem Xt.write {K : PySem.W.Frag} {H : Hp} {r : List Addr} {st : Hs} (_m : Mt K H r st) {a : Nat} {p : Addr} {o : HO} (hp : r[a]? = some p) : Xt r H r (upd H p o) :=
  ⟨⟨[], by simp⟩, fun q u h hn => ⟨by rw [upd_ne (b := q) (a := p) fun z => hn (by rw [z]; exact List.mem_of_getElem? hp)]; exact h, hn⟩⟩
theorem nodup_ad {N : List Addr} (hN : N.Nodup) {i j : Nat} {x : Addr} (a : N[i]? = some x) (b : N[j]? = some x) : i = j := by
  obtain ⟨h1, e1⟩ := List.getElem?_eq_some_iff.mp a
  obtain ⟨h2, e2⟩ := List.getElem?_eq_some_iff.mp b
  exact (List.getElem_inj hN).mp (e1.trans e2.symm)
theorem Mt.write {K : PySem.W.Frag} {H : Hp} {r : List Addr} {st : Hs} (m : Mt K H r st) {a : Nat} {p : Addr} {o : HO} {u : IO} (hp : r[a]? = some p) (h : RO K (upd H p o) r u p) : Mt K (upd H p o) r (st.set a u) := by
  refine ⟨by simp [m.len], m.nd, fun i v q h1 h2 => ?_⟩
  by_cases e : a = i
  · subst e
    rw [hp] at h2
    cases h2
    have hl : a < st.length := by
      rw [← m.len]
      exact (List.getElem?_eq_some_iff.mp hp).1
    rw [List.getElem?_set_self hl] at h1
    cases h1
    exact h
  · rw [List.getElem?_set_ne e] at h1
    refine (m.at_ i v q h1 h2).mono (Xt.write m hp) m (upd_ne fun z => e ?_)
    subst z
    exact nodup_ad m.nd hp h2
theorem Mt.ref {K : PySem.W.Frag} {H : Hp} {r : List Addr} {st : Hs} (m : Mt K H r st) {a : Nat} {o : IO} (h : st[a]? = some o) : ∃ p, r[a]? = some p ∧ RO K H r o p := by
  have hl : a < r.length := by
    rw [m.len]
    exact (List.getElem?_eq_some_iff.mp h).1
  exact ⟨r[a], by simp [hl], m.at_ a o _ h (by simp [hl])⟩

/-! ### the monad -/
/-- an exception: its class's name, what it keeps -/
structure Ex where
  c : Str
  fs : List (Str × IV)
inductive Rs (α : Type) where
  | ok (a : α) (st : Hs)
  | ex (e : Ex) (st : Hs)
  | no
abbrev M (α : Type) := Hs → Rs α
@[reducible] def ret {α : Type} (a : α) : M α := fun st => .ok a st
@[reducible] def stuck {α : Type} : M α := fun _ => .no
def bnd {α β : Type} (m : M α) (k : α → M β) : M β := fun st => match m st with
  | .ok a st' => k a st'
  | .ex e st' => .ex e st'
  | .no => .no
abbrev Env := List (Option IV)
/-- what a statement ends in -/
inductive RS where
  | nx (env : Env) (st : Hs)
  | rt (v : IV) (st : Hs)
  | bk (env : Env) (st : Hs)
  | ct (env : Env) (st : Hs)
  | ex (e : Ex) (env : Env) (st : Hs)
  | no
abbrev ME := Env → M IV
abbrev MS := Env → Hs → RS

def REnv (K : PySem.W.Frag) (H : Hp) (r : List Addr) (env : Env) (σ : L2.St) : Prop :=
  env.length = σ.length ∧ ∀ (i : Nat) (x : IV), env[i]? = some (some x) → ∃ v, σ[i]? = some (some v) ∧ RV K H r x v
theorem REnv.mono {K : PySem.W.Frag} {r r' : List Addr} {H H' : Hp} {st : Hs} {env : Env} {σ : L2.St} (e : REnv K H r env σ) (x : Xt r H r' H') (m : Mt K H r st) : REnv K H' r' env σ :=
  ⟨e.1, fun i a h => let ⟨v, h1, h2⟩ := e.2 i a h; ⟨v, h1, h2.mono x m⟩⟩
theorem REnv.set {K : PySem.W.Frag} {r : List Addr} {H : Hp} {env : Env} {σ : L2.St} (e : REnv K H r env σ) {i : Nat} {x : IV} {v : V} (h : RV K H r x v) : REnv K H r (env.set i (some x)) (σ.set i (some v)) := by
  refine ⟨by rw [List.length_set, List.length_set, e.1], fun j a hj => ?_⟩
  by_cases q : i = j
  · subst q
    by_cases hl : i < env.length
    · rw [List.getElem?_set_self hl] at hj
      cases hj
      exact ⟨v, by rw [List.getElem?_set_self (by rw [← e.1]; exact hl)], h⟩
    · rw [List.getElem?_eq_none (by simpa using hl)] at hj
      cases hj
  · rw [List.getElem?_set_ne q] at hj
    rw [List.getElem?_set_ne q]
    exact e.2 j a hj

/-- an exception as it lies -/
def ExR (K : PySem.W.Frag) (mg : Str → Option Value) (H : Hp) (r : List Addr) (e : Ex) (cls : Value) (d : Option Addr) : Prop :=
  mg e.c = some cls ∧ match e.fs with
    | [] => d = none
    | fs => ∃ dd vs, d = some dd ∧ H dd = some (.xd vs) ∧ fs.map (·.1) = vs.map (·.1) ∧ RVs K H r (fs.map (·.2)) (vs.map (·.2))

/-! ### the readings -/
/-- what is known once a part has given x: Q is wished of what it gives; W of an exception -/
def Aft {α β : Type} (X : Cx) (W : WX) (σ : L2.St) (rel : Hp → List Addr → α → β → Prop) (r : List Addr) (H : Hp) (x : Rs α) (Q : β → Hp → Prop) : Prop := match x with
  | .ok a st' => ∀ r' H' b, Xt r H r' H' → Mt X.K H' r' st' → rel H' r' a b → Q b H'
  | .ex e st' => ∀ r' H' cls d, Xt r H r' H' → Mt X.K H' r' st' → ExR X.K X.mg H' r' e cls d → W cls d σ H'
  | .no => False
section
variable {α β γ δ : Type} {X : Cx} {W : WX} {σ : L2.St} {rel : Hp → List Addr → α → β → Prop} {rel2 : Hp → List Addr → γ → δ → Prop} {r r' : List Addr} {H H' : Hp}
theorem Aft.later {x : Rs α} {Q : β → Hp → Prop} (h : Aft X W σ rel r H x Q) (e : Xt r H r' H') : Aft X W σ rel r' H' x Q := by
  cases x with
  | no => exact h
  | ok a st' => exact fun r2 H2 b x2 m2 q => h r2 H2 b (e.trans x2) m2 q
  | ex a st' => exact fun r2 H2 c d x2 m2 q => h r2 H2 c d (e.trans x2) m2 q
theorem Aft.imp {x : Rs α} {Q Q' : β → Hp → Prop} (h : Aft X W σ rel r H x Q) (i : ∀ b H, Q b H → Q' b H) : Aft X W σ rel r H x Q' := by
  cases x with
  | no => exact h
  | ok a st' => exact fun r2 H2 b x2 m2 q => i _ _ (h r2 H2 b x2 m2 q)
  | ex a st' => exact h
/-- one part, then the rest -/
theorem Aft.split {m : M α} {k : α → M γ} {st : Hs} {Q : δ → Hp → Prop} (h : Aft X W σ rel2 r H (bnd m k st) Q) :
    Aft X W σ rel r H (m st) (fun b H' => ∃ a r' st', Xt r H r' H' ∧ Mt X.K H' r' st' ∧ rel H' r' a b ∧ Aft X W σ rel2 r' H' (k a st') Q) := by
  unfold bnd at h
  cases q : m st with
  | no => rw [q] at h; exact h
  | ex e st' => rw [q] at h; exact h
  | ok a st' =>
    rw [q] at h
    exact fun r' H' b x1 m1 q1 => ⟨a, r', st', x1, m1, q1, Aft.later (h : Aft X W σ rel2 r H (k a st') Q) x1⟩
end
/-- a reading by a state-passing function -/
def tG {α β : Type} (X : Cx) (W : WX) (rel : Hp → List Addr → α → β → Prop) (m : Env → M α) : L2.St → Hp → (β → Hp → Prop) → Prop :=
  fun σ H Q => ∃ r env st, REnv X.K H r env σ ∧ Mt X.K H r st ∧ Aft X W σ rel r H (m env st) Q
abbrev rV (K : PySem.W.Frag) : Hp → List Addr → IV → V → Prop := fun H r x v => RV K H r x v
abbrev rVs (K : PySem.W.Frag) : Hp → List Addr → List IV → List V → Prop := fun H r x v => RVs K H r x v
abbrev rB : Hp → List Addr → Bool → Bool → Prop := fun _ _ a b => a = b
abbrev tE (X : Cx) (W : WX) (m : ME) : TE := tG X W (rV X.K) m
abbrev MT := Env → M Bool
abbrev MA := Env → M (List IV)
abbrev tT (X : Cx) (W : WX) (m : MT) : TT := tG X W rB m
abbrev tA (X : Cx) (W : WX) (m : MA) : TA := tG X W (rVs X.K) m
abbrev PEm (X : Cx) (W : WX) (e : Expr) (m : ME) : Prop := PE X e (tE X W m)
abbrev PTm (X : Cx) (W : WX) (e : Expr) (m : MT) : Prop := PT X e (tT X W m)
abbrev PWm (X : Cx) (W : WX) (e : Expr) (m : MT) : Prop := PW X e (tT X W m)
abbrev PAm (X : Cx) (W : WX) (es : List Expr) (m : MA) : Prop := PA X es (tA X W m)
section
variable {X : Cx}
theorem PE.weak {e : Expr} {t t' : TE} (h : PE X e t) (i : ∀ σ H Q, t' σ H Q → t σ H Q) : PE X e t' := ⟨fun pins s σ H Q I q => h.run pins s σ H Q I (i σ H Q q)⟩
theorem PT.weak {e : Expr} {t t' : TT} (h : PT X e t) (i : ∀ σ H Q, t' σ H Q → t σ H Q) : PT X e t' := ⟨fun pins s σ H Q I q => h.run pins s σ H Q I (i σ H Q q)⟩
theorem PW.weak {e : Expr} {t t' : TT} (h : PW X e t) (i : ∀ σ H Q, t' σ H Q → t σ H Q) : PW X e t' := ⟨fun whole pins s σ H Q I q => h.run whole pins s σ H Q I (i σ H Q q)⟩
theorem PA.weak {e : List Expr} {t t' : TA} (h : PA X e t) (i : ∀ σ H Q, t' σ H Q → t σ H Q) : PA X e t' := ⟨fun pos pins s σ H Q I q => h.run pos pins s σ H Q I (i σ H Q q)⟩
theorem PS.weak {e : Stmt} {t t' : TS} (h : PS X e t) (i : ∀ D σ H, t' D σ H → t D σ H) : PS X e t' := ⟨fun pins s σ H D I q => h.run pins s σ H D I (i D σ H q)⟩
theorem PSs.weak {e : List Stmt} {t t' : TS} (h : PSs X e t) (i : ∀ D σ H, t' D σ H → t D σ H) : PSs X e t' := ⟨fun pins s σ H D I q => h.run pins s σ H D I (i D σ H q)⟩
end
end Sm

set_option Elab.async false
set_option linter.all false
set_option maxRecDepth 100000
set_option maxHeartbeats 4000000
namespace Sm
open L2 PySem PySem.Spec
/-! ### expressions: names, constants, operators, tests -/
section
variable {X : Cx} {W : WX} {pos : Pos}
/-! the state-passing words -/
def mVar (i : Nat) : ME := fun env st => match env[i]? with
  | some (some x) => .ok x st
  | _ => .no
def mC (x : IV) : ME := fun _ st => .ok x st
/-- an operation without exceptions -/
abbrev O2 := IV → IV → Hs → Option (IV × Hs)
def lf (o : Option (IV × Hs)) : Rs IV := match o with
  | some (x, st) => .ok x st
  | none => .no
def mBin (f : O2) (a b : ME) : ME := fun env => bnd (a env) fun x => bnd (b env) fun y => fun st => lf (f x y st)
def asB (x : IV) : M Bool := match x with
  | .bl b => ret b
  | _ => stuck
def mtB (a : ME) : MT := fun env => bnd (a env) asB
def mAnd (a b : ME) : ME := fun env => bnd (a env) fun x => bnd (asB x) fun c => if c then b env else ret (.bl false)
def mOr (a b : ME) : ME := fun env => bnd (a env) fun x => bnd (asB x) fun c => if c then ret (.bl true) else b env
def mNot (a : ME) : ME := fun env => bnd (a env) fun x => bnd (asB x) fun c => ret (.bl (!c))
def mtAnd (a b : MT) : MT := fun env => bnd (a env) fun c => if c then b env else ret false
def mtOr (a b : MT) : MT := fun env => bnd (a env) fun c => if c then ret true else b env
def mtNot (a : MT) : MT := fun env => bnd (a env) fun c => ret (!c)
def mIf (c : MT) (a b : ME) : ME := fun env => bnd (c env) fun t => if t then a env else b env
/-- a f b g c, b asked once -/
def mChain (f g : O2) (a b c : ME) : ME := fun env => bnd (a env) fun x => bnd (b env) fun y => bnd (fun st => lf (f x y st)) fun z => bnd (asB z) fun t => if t then bnd (c env) (fun w st => lf (g y w st)) else ret (.bl false)

/-- what is wished of an operation's answer -/
def rM2 (K : PySem.W.Frag) (f : O2) : R2 := fun x' y' H Q => ∃ r x y st, Mt K H r st ∧ RV K H r x x' ∧ RV K H r y y' ∧ match f x y st with
  | some (z, st') => ∀ r' H' v, Xt r H r' H' → Mt K H' r' st' → RV K H' r' z v → Q v H'
  | none => False
theorem OpR.weak {f : Value → Value → Sem Value} {r r' : R2} (h : OpR X f r) (i : ∀ x y H Q, r' x y H Q → r x y H Q) : OpR X f r' := fun pins s σ H x y v u Q I rx ry q => h pins s σ H x y v u Q I rx ry (i x y H Q q)
theorem rM2_of {f : O2} {σ : L2.St} {r : List Addr} {H : Hp} {x y : IV} {x' y' : V} {st : Hs} {Q : VK} (m : Mt X.K H r st) (rx : RV X.K H r x x') (ry : RV X.K H r y y') (h : Aft X W σ (rV X.K) r H (lf (f x y st)) Q) : rM2 X.K f x' y' H Q := by
  refine ⟨r, x, y, st, m, rx, ry, ?_⟩
  cases q : f x y st with
  | none => rw [q] at h; exact h
  | some p => rw [q] at h; exact h

theorem pem_var (i : Nat) {x : Str} (hN : X.N[i]? = some x := by rfl) (hv : Vis X.env.scope x := by first | exact Or.inl rfl | exact Or.inr (Or.inl rfl) | exact Or.inr (Or.inr rfl)) (hd : (x == ("__debug__" : Str)) = false := by decide)
    (hcd : (x == ("__classdict__" : Str)) = false := by decide) : PEm X W (.Name x pos) (mVar i) := PE.weak (pv i hN hv hd hcd) fun σ H Q ⟨r, env, st, he, hm, h⟩ => by
  unfold mVar at h
  split at h
  · rename_i y q
    obtain ⟨v, e1, rv⟩ := he.2 i y q
    exact ⟨v, e1, h r H v Xt.refl hm rv⟩
  · exact h.elim
theorem pem_C {e : Expr} {x : IV} {v : V} (h : PE X e (tC v)) (rv : ∀ H r, RV X.K H r x v) : PEm X W e (mC x) := PE.weak h fun σ H Q ⟨r, env, st, he, hm, h⟩ => h r H v Xt.refl hm (rv H r)
theorem pem_int {i : Int} {j : Nat} : PEm X W (.Constant (.int i) j pos) (mC (.int i)) := pem_C pe_int fun _ _ => .int i
theorem pem_bl {b : Bool} {j : Nat} : PEm X W (.Constant (.bool b) j pos) (mC (.bl b)) := pem_C pe_bl fun _ _ => .bl b
theorem pem_non {j : Nat} : PEm X W (.Constant .none j pos) (mC .non) := pem_C pe_non fun _ _ => .non
theorem pem_str {x : Str} {j : Nat} : PEm X W (.Constant (.str x) j pos) (mC (.str x)) := pem_C pe_str fun _ _ => .str x
theorem pem_gI {x : Str} {i : Int} (hg : Gl X x) (h : ∃ t, X.mg x = some (.int i t)) (hd : (x == ("__debug__" : Str)) = false := by decide) : PEm X W (.Name x pos) (mC (.int i)) := by
  obtain ⟨t, e⟩ := h
  exact pem_C (pe_glob (v := .int i) hg e ⟨t, rfl⟩ (hd := hd)) fun _ _ => .int i
theorem pem_gS {x z : Str} (hg : Gl X x) (h : ∃ t, X.mg x = some (.str z t)) (hd : (x == ("__debug__" : Str)) = false := by decide) : PEm X W (.Name x pos) (mC (.str z)) := by
  obtain ⟨t, e⟩ := h
  exact pem_C (pe_glob (v := .str z) hg e ⟨t, rfl⟩ (hd := hd)) fun _ _ => .str z

variable {a b c : Expr} {ma mb mc : ME} {rest : List Expr}
theorem pem_op {op : Operator} {f : O2} (ho : OpR X (binaryOp op) (rM2 X.K f)) (ha : PEm X W a ma) (hb : PEm X W b mb) : PEm X W (.BinOp a op b pos) (mBin f ma mb) :=
  PE.weak (pe_op ho ha hb) fun σ H Q ⟨r, env, st, he, hm, h⟩ => ⟨r, env, st, he, hm, h.split.imp fun v H1 ⟨x, r1, st1, x1, m1, rv, h1⟩ =>
    ⟨r1, env, st1, he.mono x1 hm, m1, h1.split.imp fun v2 H2 ⟨y, r2, st2, x2, m2, rv2, h2⟩ => rM2_of m2 (rv.mono x2 m1) rv2 h2⟩⟩
theorem pem_cmp {op : CmpOp} {f : O2} (ho : OpR X (compareOp op) (rM2 X.K f)) (ha : PEm X W a ma) (hb : PEm X W b mb) (hm : behindInMarks op b = false := by first | exact nomark _ | rfl | with_unfolding_all rfl) : PEm X W (.Compare a [op] [b] pos) (mBin f ma mb) :=
  PE.weak (pe_cmpR ho ha hb hm) fun σ H Q ⟨r, env, st, he, hm, h⟩ => ⟨r, env, st, he, hm, h.split.imp fun v H1 ⟨x, r1, st1, x1, m1, rv, h1⟩ =>
    ⟨r1, env, st1, he.mono x1 hm, m1, h1.split.imp fun v2 H2 ⟨y, r2, st2, x2, m2, rv2, h2⟩ => rM2_of m2 (rv.mono x2 m1) rv2 h2⟩⟩
/-- a value that is a bool, as a test -/
theorem asB_of {σ : L2.St} {r : List Addr} {H : Hp} {x : IV} {v : V} {st : Hs} {Q : Bool → Hp → Prop} (m : Mt X.K H r st) (rv : RV X.K H r x v) (h : Aft X W σ rB r H (asB x st) Q) : ∃ k, v = .bl k ∧ Q k H := by
  cases rv with
  | bl k => exact ⟨k, rfl, h r H k Xt.refl m rfl⟩
  | non => exact h.elim
  | int i => exact h.elim
  | str i => exact h.elim
  | tup _ _ => exact h.elim
  | rl _ _ => exact h.elim
  | ref _ => exact h.elim
  | obj _ _ _ _ _ _ _ => exact h.elim
  | fd _ _ _ _ => exact h.elim
  | cls _ _ _ _ => exact h.elim
theorem ptm_cmp {op : CmpOp} {f : O2} (ho : OpR X (compareOp op) (rM2 X.K f)) (ha : PEm X W a ma) (hb : PEm X W b mb) (hm : behindInMarks op b = false := by first | exact nomark _ | rfl | with_unfolding_all rfl) : PTm X W (.Compare a [op] [b] pos) (mtB (mBin f ma mb)) :=
  PT.weak (pt_cmpR ho ha hb hm) fun σ H Q ⟨r, env, st, he, hm, h⟩ => by
    have h0 := h.split (rel := rV X.K)
    exact ⟨r, env, st, he, hm, h0.split.imp fun v H1 ⟨x, r1, st1, x1, m1, rv, h1⟩ => ⟨r1, env, st1, he.mono x1 hm, m1, h1.split.imp fun v2 H2 ⟨y, r2, st2, x2, m2, rv2, h2⟩ =>
      rM2_of m2 (rv.mono x2 m1) rv2 (h2.imp fun v3 H3 ⟨z, r3, st3, x3, m3, rv3, h3⟩ => asB_of m3 rv3 h3)⟩⟩
theorem pem_chain {op op' : CmpOp} {f g : O2} (ho : OpR X (compareOp op) (rM2 X.K f)) (ho' : OpR X (compareOp op') (rM2 X.K g)) (ha : PEm X W a ma) (hb : PEm X W b mb) (hc : PEm X W c mc)
    (hm : lastMarks [op, op'] [b, c] = false := by with_unfolding_all rfl) : PEm X W (.Compare a [op, op'] [b, c] pos) (mChain f g ma mb mc) :=
  PE.weak (pe_chain ho ho' ha hb hc hm) fun σ H Q ⟨r, env, st, he, hm, h⟩ => ⟨r, env, st, he, hm, h.split.imp fun v H1 ⟨x, r1, st1, x1, m1, rv, h1⟩ => ⟨r1, env, st1, he.mono x1 hm, m1, h1.split.imp fun v2 H2 ⟨y, r2, st2, x2, m2, rv2, h2⟩ =>
    rM2_of m2 (rv.mono x2 m1) rv2 (h2.split.imp fun v3 H3 ⟨z, r3, st3, x3, m3, rv3, h3⟩ => by
      obtain ⟨k, e, t, r4, st4, x4, m4, ek, h4⟩ := asB_of m3 rv3 h3.split
      refine ⟨k, e, ?_⟩
      subst ek
      cases t with
      | true => exact iteT ⟨r4, env, st4, (((he.mono x1 hm).mono x2 m1).mono x3 m2).mono x4 m3, m4, (show Aft X W σ (rV X.K) r4 H3 (bnd (mc env) (fun w st => lf (g y w st)) st4) Q from h4).split.imp fun v5 H5 ⟨w, r5, st5, x5, m5, rv5, h5⟩ =>
          rM2_of m5 (((rv2.mono x3 m2).mono x4 m3).mono x5 m4) rv5 h5⟩
      | false => exact iteF (h4 r4 H3 (.bl false) Xt.refl m4 (.bl false)))⟩⟩
theorem ptm_chain {op op' : CmpOp} {f g : O2} (ho : OpR X (compareOp op) (rM2 X.K f)) (ho' : OpR X (compareOp op') (rM2 X.K g)) (ha : PEm X W a ma) (hb : PEm X W b mb) (hc : PEm X W c mc)
    (hm : lastMarks [op, op'] [b, c] = false := by with_unfolding_all rfl) : PTm X W (.Compare a [op, op'] [b, c] pos) (mtB (mChain f g ma mb mc)) :=
  PT.weak (pt_chain ho ho' ha hb hc hm) fun σ H Q ⟨r, env, st, he, hm, h⟩ => by
    have h0 := h.split (rel := rV X.K)
    exact ⟨r, env, st, he, hm, h0.split.imp fun v H1 ⟨x, r1, st1, x1, m1, rv, h1⟩ => ⟨r1, env, st1, he.mono x1 hm, m1, h1.split.imp fun v2 H2 ⟨y, r2, st2, x2, m2, rv2, h2⟩ =>
    rM2_of m2 (rv.mono x2 m1) rv2 (h2.split.imp fun v3 H3 ⟨z, r3, st3, x3, m3, rv3, h3⟩ => by
      obtain ⟨k, e, t, r4, st4, x4, m4, ek, h4⟩ := asB_of m3 rv3 h3.split
      refine ⟨k, e, ?_⟩
      subst ek
      cases t with
      | true =>
        have h5 := (show Aft X W σ (rV X.K) r4 H3 (bnd (mc env) (fun w st => lf (g y w st)) st4) _ from h4).split (rel := rV X.K)
        exact iteT ⟨r4, env, st4, (((he.mono x1 hm).mono x2 m1).mono x3 m2).mono x4 m3, m4, h5.imp fun v5 H5 ⟨w, r5, st5, x5, m5, rv5, h5⟩ =>
          rM2_of m5 (((rv2.mono x3 m2).mono x4 m3).mono x5 m4) rv5 (h5.imp fun v6 H6 ⟨z6, r6, st6, x6, m6, rv6, h6⟩ => asB_of m6 rv6 h6)⟩
      | false =>
        obtain ⟨z6, r6, st6, x6, m6, rv6, h6⟩ := h4 r4 H3 (.bl false) Xt.refl m4 (.bl false)
        exact iteF (asB_of m6 rv6 h6))⟩⟩
/-- any expression whose value is a bool, as a test -/
theorem ptm_val (ha : PEm X W a ma) (he : ∀ whole, isTrue a X.env whole = (do let v ← whole; standAt a.pos; holding [v] (truthy v)) := by intro _; rfl) : PTm X W a (mtB ma) :=
  PT.weak (pt_val ha he) fun σ H Q ⟨r, env, st, he, hm, h⟩ => ⟨r, env, st, he, hm, h.split.imp fun v H1 ⟨x, r1, st1, x1, m1, rv, h1⟩ => asB_of m1 rv h1⟩
theorem pem_one {op : BoolOp} (ha : PEm X W a ma) : PEm X W (.BoolOp op [a] pos) ma := pe_one ha
theorem pem_and (ha : PEm X W a ma) (hb : PEm X W (.BoolOp .And (b :: rest) pos) mb) : PEm X W (.BoolOp .And (a :: b :: rest) pos) (mAnd ma mb) :=
  PE.weak (pe_and ha hb) fun σ H Q ⟨r, env, st, he, hm, h⟩ => ⟨r, env, st, he, hm, h.split.imp fun v H1 ⟨x, r1, st1, x1, m1, rv, h1⟩ => by
    obtain ⟨k, e, t, r4, st4, x4, m4, ek, h4⟩ := asB_of m1 rv h1.split
    refine ⟨k, e, ?_⟩
    subst ek
    cases t with
    | true => exact iteT ⟨r4, env, st4, (he.mono x1 hm).mono x4 m1, m4, h4⟩
    | false => exact iteF (h4 r4 H1 (.bl false) Xt.refl m4 (.bl false))⟩
theorem pem_or (ha : PEm X W a ma) (hb : PEm X W (.BoolOp .Or (b :: rest) pos) mb) : PEm X W (.BoolOp .Or (a :: b :: rest) pos) (mOr ma mb) :=
  PE.weak (pe_or ha hb) fun σ H Q ⟨r, env, st, he, hm, h⟩ => ⟨r, env, st, he, hm, h.split.imp fun v H1 ⟨x, r1, st1, x1, m1, rv, h1⟩ => by
    obtain ⟨k, e, t, r4, st4, x4, m4, ek, h4⟩ := asB_of m1 rv h1.split
    refine ⟨k, e, ?_⟩
    subst ek
    cases t with
    | false => exact iteF ⟨r4, env, st4, (he.mono x1 hm).mono x4 m1, m4, h4⟩
    | true => exact iteT (h4 r4 H1 (.bl true) Xt.refl m4 (.bl true))⟩
theorem pem_not (ha : PEm X W a ma) : PEm X W (.UnaryOp .Not a pos) (mNot ma) :=
  PE.weak (pe_not ha) fun σ H Q ⟨r, env, st, he, hm, h⟩ => ⟨r, env, st, he, hm, h.split.imp fun v H1 ⟨x, r1, st1, x1, m1, rv, h1⟩ => by
    obtain ⟨k, e, t, r4, st4, x4, m4, ek, h4⟩ := asB_of m1 rv h1.split
    refine ⟨k, e, ?_⟩
    subst ek
    exact h4 r4 H1 (.bl (!t)) Xt.refl m4 (.bl (!t))⟩
variable {ta tb tc : MT}
theorem pwm_and1 (ha : PTm X W a ta) : PWm X W (.BoolOp .And [a] pos) ta := pw_and1 ha
theorem pwm_or1 (ha : PTm X W a ta) : PWm X W (.BoolOp .Or [a] pos) ta := pw_or1 ha
theorem pwm_and (ha : PTm X W a ta) (hb : PWm X W (.BoolOp .And (b :: rest) pos) tb) : PWm X W (.BoolOp .And (a :: b :: rest) pos) (mtAnd ta tb) :=
  PW.weak (pw_and ha hb) fun σ H Q ⟨r, env, st, he, hm, h⟩ => ⟨r, env, st, he, hm, (h.split (rel := rB)).imp fun v H1 ⟨t, r1, st1, x1, m1, ek, h1⟩ => by
    subst ek
    cases t with
    | true => exact iteT ⟨r1, env, st1, he.mono x1 hm, m1, h1⟩
    | false => exact iteF (h1 r1 H1 false Xt.refl m1 rfl)⟩
theorem pwm_or (ha : PTm X W a ta) (hb : PWm X W (.BoolOp .Or (b :: rest) pos) tb) : PWm X W (.BoolOp .Or (a :: b :: rest) pos) (mtOr ta tb) :=
  PW.weak (pw_or ha hb) fun σ H Q ⟨r, env, st, he, hm, h⟩ => ⟨r, env, st, he, hm, (h.split (rel := rB)).imp fun v H1 ⟨t, r1, st1, x1, m1, ek, h1⟩ => by
    subst ek
    cases t with
    | false => exact iteF ⟨r1, env, st1, he.mono x1 hm, m1, h1⟩
    | true => exact iteT (h1 r1 H1 true Xt.refl m1 rfl)⟩
theorem ptm_bool (h : PWm X W a ta) : PTm X W a ta := h.pt
theorem ptm_not (ha : PTm X W a ta) : PTm X W (.UnaryOp .Not a pos) (mtNot ta) :=
  PT.weak (pt_not ha) fun σ H Q ⟨r, env, st, he, hm, h⟩ => ⟨r, env, st, he, hm, (h.split (rel := rB)).imp fun v H1 ⟨t, r1, st1, x1, m1, ek, h1⟩ => by
    subst ek
    exact h1 r1 H1 (!t) Xt.refl m1 rfl⟩
theorem pem_if (hc : PTm X W c tc) (ha : PEm X W a ma) (hb : PEm X W b mb) : PEm X W (.IfExp c a b pos) (mIf tc ma mb) :=
  PE.weak (pe_ifExp hc ha hb) fun σ H Q ⟨r, env, st, he, hm, h⟩ => ⟨r, env, st, he, hm, (h.split (rel := rB)).imp fun v H1 ⟨t, r1, st1, x1, m1, ek, h1⟩ => by
    subst ek
    cases t with
    | true => exact iteT ⟨r1, env, st1, he.mono x1 hm, m1, h1⟩
    | false => exact iteF ⟨r1, env, st1, he.mono x1 hm, m1, h1⟩⟩
end
end Sm

set_option Elab.async false
set_option linter.all false
set_option maxRecDepth 100000
set_option maxHeartbeats 4000000
namespace Sm
open L2 PySem PySem.Spec
open PySem.SeqAt (EqAt RcAt RcNeAt)
/-! ### equality of data -/
def ioL : Option IO → Option (List IV)
  | some (.lst xs) => some xs
  | _ => none
def lstOf (st : Hs) : IV → Option (List IV)
  | .rl xs => some xs
  | .ref a => ioL st[a]?
  | _ => none
/-- whether a value is data of a known kind -/
def isDat (st : Hs) : IV → Bool
  | .ref a => (ioL st[a]?).isSome
  | .obj _ _ _ => false
  | .fd _ _ => false
  | .cls _ => false
  | _ => true
theorem ioL_some {o : Option IO} {xs : List IV} (h : ioL o = some xs) : o = some (.lst xs) := by
  cases o with
  | none => cases h
  | some o =>
    cases o with
    | lst ys => cases h; rfl
    | _ => cases h
def eqAll (f : IV → IV → Option Bool) : List IV → List IV → Option Bool
  | x :: xs, y :: ys => match f x y, eqAll f xs ys with
    | some a, some b => some (a && b)
    | _, _ => none
  | _, _ => some true
def eqI (st : Hs) : Nat → IV → IV → Option Bool
  | 0, _, _ => none
  | n + 1, x, y => match x, y with
    | .non, .non => some true
    | .bl a, .bl b => some (a == b)
    | .bl a, .int j => some ((if a then 1 else 0) == j)
    | .int i, .bl b => some (i == (if b then 1 else 0))
    | .int i, .int j => some (i == j)
    | .str a, .str b => some (a == b)
    | .tup xs, .tup ys => (eqAll (eqI st n) xs ys).map fun b => b && xs.length == ys.length
    | x, y => match lstOf st x, lstOf st y with
      | some xs, some ys => if xs.length = ys.length then eqAll (eqI st n) xs ys else some false
      | _, _ => if isDat st x && isDat st y then some false else none

/-- the kinds, by the real heap -/
inductive Kd (K : PySem.W.Frag) (H : Hp) (r : List Addr) (st : Hs) (s : Shared) : IV → Value → Prop where
  | non : Kd K H r st s .non .none
  | bl (b : Bool) : Kd K H r st s (.bl b) (.bool b)
  | int (i : Int) (t : Tok) : Kd K H r st s (.int i) (.int i t)
  | str (x : Str) (t : Tok) : Kd K H r st s (.str x) (.str x t)
  | tup {p : Addr} {xs : List IV} {vs : List V} {us : List Value} : PyProof.Rows.IsTup s.heap p us.toArray → RVs K H r xs vs → Vals vs us → SqT K H p vs → Kd K H r st s (.tup xs) (.ref p)
  | lst {x : IV} {p : Addr} {xs : List IV} {vs : List V} {us : List Value} : lstOf st x = some xs → s.heap.IsList p us.toArray → RVs K H r xs vs → Vals vs us → SqL K H p vs → Kd K H r st s x (.ref p)
section
variable {X : Cx} {pins : List (Addr × Obj)} {σ : L2.St} {H : Hp} {s : Shared} {r : List Addr} {st : Hs}
theorem kd_of (I : Inv X pins σ H s) (m : Mt X.K H r st) {x : IV} {v : V} {u : Value} (rv : RV X.K H r x v) (ru : RelV v u) (d : isDat st x = true) : Kd X.K H r st s x u := by
  cases rv with
  | non => cases ru; exact .non
  | bl b => cases ru; exact .bl b
  | int i => obtain ⟨t, rfl⟩ := ru; exact .int i t
  | str i => obtain ⟨t, rfl⟩ := ru; exact .str i t
  | tup h hs =>
    cases ru
    obtain ⟨us, ra, p, _⟩ := I.tuple h
    exact .tup p hs ra h
  | rl h hs =>
    cases ru
    obtain ⟨us, ra, p, _⟩ := I.list h.sq
    exact .lst rfl p.isList hs ra h.sq
  | @ref a p h =>
    cases ru
    obtain ⟨xs, e⟩ := Option.isSome_iff_exists.mp (show (ioL st[a]?).isSome = true from d)
    obtain ⟨p', e1, vs, e2, hs⟩ := m.ref (ioL_some e)
    rw [h] at e1
    cases e1
    obtain ⟨us, ra, pl, _⟩ := I.list (SqL.of e2)
    exact .lst e pl.isList hs ra (SqL.of e2)
  | obj _ _ _ _ _ _ _ => cases d
  | fd _ _ _ _ => cases d
  | cls _ _ _ _ => cases d
theorem k_none (I : Inv X pins σ H s) {a : Addr} {o : Obj} (h : X.K.lookup a = some o) : H a = none := (I.bs a o (I.mod.kin a o h)).2
theorem isDat_lst {x : IV} {xs : List IV} (h : lstOf st x = some xs) : isDat st x = true := by
  cases x with
  | ref a =>
    show (ioL st[a]?).isSome = true
    rw [show ioL st[a]? = some xs from h]
    rfl
  | _ => first | rfl | cases h

mutual
/-- the same but for what stands in instances -/
inductive Sim : IV → IV → Prop where
  | same (x : IV) : Sim x x
  | tup {xs ys : List IV} : Sims xs ys → Sim (.tup xs) (.tup ys)
  | rl {xs ys : List IV} : Sims xs ys → Sim (.rl xs) (.rl ys)
  | obj (c d : Str) (ns : List Str) {xs ys : List IV} : Sims xs ys → Sim (.obj c ns xs) (.obj d ns ys)
  | fd (ks js : List L2.Key) (xs ys : List IV) : Sim (.fd ks xs) (.fd js ys)
  | cls (c d : Str) : Sim (.cls c) (.cls d)
inductive Sims : List IV → List IV → Prop where
  | nil : Sims [] []
  | cons {x y : IV} {xs ys : List IV} : Sim x y → Sims xs ys → Sims (x :: xs) (y :: ys)
end
theorem Sims.length : ∀ {xs ys : List IV}, Sims xs ys → xs.length = ys.length
  | _, _, .nil => rfl
  | _, _, .cons _ h => congrArg Nat.succ h.length
theorem no_tup (I : Inv X pins σ H s) (m : Mt X.K H r st) {p : Addr} {vs : List V} {a : Nat} (h : SqT X.K H p vs) (h' : r[a]? = some p) : False := by
  have w := m.mut (List.mem_of_getElem? h')
  rcases h with (h | ⟨o, h⟩) | ⟨o, its, n, e, _⟩
  · rw [h] at w; exact w
  · rw [h] at w; exact w
  · rw [k_none I e] at w; exact w
theorem no_rl (I : Inv X pins σ H s) (m : Mt X.K H r st) {p : Addr} {vs : List V} {a : Nat} (h : RolA X.K H p vs) (h' : r[a]? = some p) : False := by
  have w := m.mut (List.mem_of_getElem? h')
  rcases h with ⟨o, h⟩ | ⟨o, its, n, e, _⟩
  · rw [h] at w; exact w
  · rw [k_none I e] at w; exact w
theorem no_tupI (I : Inv X pins σ H s) {p C dx : Addr} {fs : List (Str × V)} {vs : List V} (h : SqT X.K H p vs) (h' : H p = some (.ins C dx fs)) : False := by
  rcases h with (h | ⟨o, h⟩) | ⟨o, its, n, e, _⟩
  · rw [h] at h'; cases h'
  · rw [h] at h'; cases h'
  · rw [k_none I e] at h'; cases h'
theorem no_rlI (I : Inv X pins σ H s) {p C dx : Addr} {fs : List (Str × V)} {vs : List V} (h : RolA X.K H p vs) (h' : H p = some (.ins C dx fs)) : False := by
  rcases h with ⟨o, h⟩ | ⟨o, its, n, e, _⟩
  · rw [h] at h'; cases h'
  · rw [k_none I e] at h'; cases h'
theorem no_tupF (I : Inv X pins σ H s) {p : Addr} {od : Obj} {dk : List (L2.Key × V)} {vs : List V} (h : SqT X.K H p vs) (h' : H p = some (.frz od (.dK dk))) : False := by
  rcases h with (h | ⟨o, h⟩) | ⟨o, its, n, e, _⟩
  · rw [h] at h'; cases h'
  · rw [h] at h'; cases h'
  · rw [k_none I e] at h'; cases h'
theorem no_rlF (I : Inv X pins σ H s) {p : Addr} {od : Obj} {dk : List (L2.Key × V)} {vs : List V} (h : RolA X.K H p vs) (h' : H p = some (.frz od (.dK dk))) : False := by
  rcases h with ⟨o, h⟩ | ⟨o, its, n, e, _⟩
  · rw [h] at h'; cases h'
  · rw [k_none I e] at h'; cases h'
theorem no_tupC (I : Inv X pins σ H s) {p : Addr} {o : Obj} {vs : List V} (h : SqT X.K H p vs) (h' : X.K.lookup p = some o) (c : o.cls ≠ .type "tuple") : False := by
  rcases h with (h | ⟨o, h⟩) | ⟨o2, its, n, e, ec, _⟩
  · rw [k_none I h'] at h; cases h
  · rw [k_none I h'] at h; cases h
  · rw [h'] at e; cases e; exact c ec
theorem no_rlC (I : Inv X pins σ H s) {p : Addr} {o : Obj} {vs : List V} (h : RolA X.K H p vs) (h' : X.K.lookup p = some o) (c : o.cls ≠ .type "list") : False := by
  rcases h with ⟨o, h⟩ | ⟨o2, its, n, e, ec, _⟩
  · rw [k_none I h'] at h; cases h
  · rw [h'] at e; cases e; exact c ec
theorem no_refC (I : Inv X pins σ H s) (m : Mt X.K H r st) {p : Addr} {a : Nat} {o : Obj} (h : r[a]? = some p) (h' : X.K.lookup p = some o) : False := by
  have w := m.mut (List.mem_of_getElem? h)
  rw [k_none I h'] at w
  exact w
mutual
/-- one address, one value -/
theorem RV.sim (I : Inv X pins σ H s) (m : Mt X.K H r st) : ∀ {x y : IV} {v : V}, RV X.K H r x v → RV X.K H r y v → Sim x y
  | _, _, _, .non, h => by cases h; exact .same _
  | _, _, _, .bl b, h => by cases h; exact .same _
  | _, _, _, .int i, h => by cases h; exact .same _
  | _, _, _, .str z, h => by cases h; exact .same _
  | _, _, _, .tup h hs, g => by
    cases g with
    | tup h' hs' =>
      cases I.tuple_inj h h'
      exact .tup (RVs.sim I m hs hs')
    | rl h' hs' =>
      obtain ⟨_, _, ⟨o, e, c, _⟩, _⟩ := I.tuple h
      obtain ⟨_, _, ⟨o', _, e', c', _⟩, _⟩ := I.list h'.sq
      rw [e] at e'
      cases e'
      rw [c] at c'
      exact absurd c' (by decide +kernel)
    | ref h' => exact (no_tup I m h h').elim
    | obj h' => exact (no_tupI I h h').elim
    | fd h' => exact (no_tupF I h h').elim
    | cls _ h' c' _ => exact (no_tupC I h h' c').elim
  | _, _, _, .rl h hs, g => by
    cases g with
    | rl h' hs' =>
      cases I.list_inj h.sq h'.sq
      exact .rl (RVs.sim I m hs hs')
    | tup h' hs' =>
      obtain ⟨_, _, ⟨o, e, c, _⟩, _⟩ := I.tuple h'
      obtain ⟨_, _, ⟨o', _, e', c', _⟩, _⟩ := I.list h.sq
      rw [e] at e'
      cases e'
      rw [c] at c'
      exact absurd c' (by decide +kernel)
    | ref h' => exact (no_rl I m h h').elim
    | obj h' => exact (no_rlI I h h').elim
    | fd h' => exact (no_rlF I h h').elim
    | cls _ h' _ c' => exact (no_rlC I h h' c').elim
  | _, _, _, .ref h, g => by
    cases g with
    | ref h' => rw [nodup_ad m.nd h h']; exact .same _
    | tup h' hs' => exact (no_tup I m h' h).elim
    | rl h' hs' => exact (no_rl I m h' h).elim
    | obj _ n => exact (n (List.mem_of_getElem? h)).elim
    | fd h' => exact (m.out h' (fun z => z) (List.mem_of_getElem? h)).elim
    | cls _ h' => exact (no_refC I m h h').elim
  | _, _, _, .obj h n _ _ e1 e2 hs, g => by
    cases g with
    | obj h' _ _ _ e1' e2' hs' =>
      have z := Option.some.inj (h.symm.trans h')
      injection z with z1 z2 z3
      subst e1 e2 e1' e2' z3
      exact .obj _ _ _ (RVs.sim I m hs hs')
    | ref h' => exact (n (List.mem_of_getElem? h')).elim
    | tup h' hs' => exact (no_tupI I h' h).elim
    | rl h' hs' => exact (no_rlI I h' h).elim
    | fd h' => rw [h] at h'; cases h'
    | cls _ h' => rw [k_none I h'] at h; cases h
  | _, _, _, .fd h _ _ _, g => by
    cases g with
    | fd h' => exact .fd _ _ _ _
    | cls _ h' => rw [k_none I h'] at h; cases h
    | ref h' => exact (m.out h (fun z => z) (List.mem_of_getElem? h')).elim
    | tup h' hs' => exact (no_tupF I h' h).elim
    | rl h' hs' => exact (no_rlF I h' h).elim
    | obj h' => rw [h] at h'; cases h'
  | _, _, _, .cls _ h a b, g => by
    cases g with
    | cls _ h' => exact .cls _ _
    | fd h' => rw [k_none I h] at h'; cases h'
    | obj h' => rw [k_none I h] at h'; cases h'
    | ref h' => exact (no_refC I m h' h).elim
    | tup h' hs' => exact (no_tupC I h' h a).elim
    | rl h' hs' => exact (no_rlC I h' h b).elim
theorem RVs.sim (I : Inv X pins σ H s) (m : Mt X.K H r st) : ∀ {x y : List IV} {v : List V}, RVs X.K H r x v → RVs X.K H r y v → Sims x y
  | _, _, _, .nil, .nil => .nil
  | _, _, _, .cons h hs, .cons g gs => .cons (RV.sim I m h g) (RVs.sim I m hs gs)
end
theorem eqAll_sim {f : IV → IV → Option Bool} (hf : ∀ x y z, Sim x y → f x z = f y z ∧ f z x = f z y) : ∀ {xs ys zs : List IV}, Sims xs ys → eqAll f xs zs = eqAll f ys zs ∧ eqAll f zs xs = eqAll f zs ys
  | _, _, zs, .nil => ⟨rfl, rfl⟩
  | _, _, [], .cons a b => ⟨rfl, rfl⟩
  | _, _, z :: zs, .cons a b => by
    obtain ⟨h1, h2⟩ := hf _ _ z a
    obtain ⟨h3, h4⟩ := eqAll_sim hf (zs := zs) b
    unfold eqAll
    rw [h1, h2, h3, h4]
    exact ⟨rfl, rfl⟩
theorem eqAll_refl {f : IV → IV → Option Bool} : ∀ {xs : List IV} {b : Bool}, (∀ x b, f x x = some b → b = true) → eqAll f xs xs = some b → b = true
  | [], b, _, h => by
    unfold eqAll at h
    exact (Option.some.inj h).symm
  | x :: xs, b, hf, h => by
    unfold eqAll at h
    split at h
    · rename_i a c h1 h2
      cases h
      rw [hf x a h1, eqAll_refl hf h2] <;> rfl
    · cases h
theorem eqI_refl : ∀ (n : Nat) (x : IV) (b : Bool), eqI st n x x = some b → b = true
  | 0, _, _, h => by cases h
  | n + 1, x, b, h => by
    have lc : ∀ y : IV, (match lstOf st y, lstOf st y with
      | some xs, some ys => if xs.length = ys.length then eqAll (eqI st n) xs ys else some false
      | _, _ => if isDat st y && isDat st y then some false else none) = some b → (isDat st y = true → (lstOf st y).isSome = true) → b = true := fun y h k => by
      cases q : lstOf st y with
      | some xs =>
        rw [q] at h
        simp only [if_true] at h
        exact eqAll_refl (eqI_refl n) h
      | none =>
        rw [q] at h
        by_cases d : isDat st y = true
        · have := k d
          rw [q] at this
          cases this
        · simp only [Bool.not_eq_true] at d
          simp only [d, Bool.and_false] at h
          cases h
    cases x with
    | non => exact (Option.some.inj h).symm
    | bl c => exact (Option.some.inj h).symm.trans (beq_self_eq_true c)
    | int i => exact (Option.some.inj h).symm.trans (beq_self_eq_true i)
    | str i => exact (Option.some.inj h).symm.trans (beq_self_eq_true i)
    | tup xs =>
      unfold eqI at h
      simp only [beq_self_eq_true, Bool.and_true, Option.map_id'] at h
      exact eqAll_refl (eqI_refl n) h
    | rl xs => exact lc (.rl xs) h fun _ => rfl
    | ref a => exact lc (.ref a) h fun d => d
    | obj c ns xs => exact lc (.obj c ns xs) h fun d => by cases d
    | fd ks xs => exact lc (.fd ks xs) h fun d => by cases d
    | cls c => exact lc (.cls c) h fun d => by cases d

/-- the three comparisons -/
structure Eq3 (A : Around) (s : Shared) (u w : Value) (b : Bool) : Prop where
  rc : RcAt A s u w b
  ne : RcNeAt A s u w (!b)
  eq : EqAt A s u w b
theorem eq3_swap {A : Around} {u w : Value} {b c : Bool} (h : Eq3 A s u w b) (e : b = c) : Eq3 A s u w c := e ▸ h
/-- items, by places -/
theorem eqAll_at {f : IV → IV → Option Bool} {P : Value → Value → Bool → Prop} (hp : ∀ x y b v w u1 u2, f x y = some b → RV X.K H r x v → RV X.K H r y w → RelV v u1 → RelV w u2 → P u1 u2 b) :
    ∀ {xs ys : List IV} {b : Bool}, eqAll f xs ys = some b → ∀ {vs ws : List V} {us us2 : List Value}, RVs X.K H r xs vs → RVs X.K H r ys ws → Vals vs us → Vals ws us2 →
      ∃ e : Nat → Bool, (∀ j (h1 : j < us.length) (h2 : j < us2.length), P us[j] us2[j] (e j)) ∧ (List.range (min us.length us2.length)).all e = b
  | [], ys, b, h, _, _, us, us2, q1, _, q2, _ => by
      cases q1
      cases q2
      refine ⟨fun _ => true, fun j h1 => absurd h1 (Nat.not_lt_zero j), ?_⟩
      unfold eqAll at h
      cases h
      simp
  | x :: xs, [], b, h, _, _, us, us2, _, q1, _, q2 => by
      cases q1
      cases q2
      refine ⟨fun _ => true, fun j _ h2 => absurd h2 (Nat.not_lt_zero j), ?_⟩
      unfold eqAll at h
      cases h
      simp
  | x :: xs, y :: ys, b, h, _, _, _, _, q1, q2, q3, q4 => by
    cases q1 with | cons rx rxs =>
    cases q2 with | cons ry rys =>
    cases q3 with | cons a1 as =>
    cases q4 with | cons b1 bs =>
    unfold eqAll at h
    split at h
    · rename_i c d h1 h2
      cases h
      obtain ⟨e, k1, k2⟩ := eqAll_at hp h2 rxs rys as bs
      refine ⟨fun j => match j with | 0 => c | j + 1 => e j, fun j g1 g2 => ?_, ?_⟩
      · cases j with
        | zero => exact hp _ _ _ _ _ _ _ h1 rx ry a1 b1
        | succ j => exact k1 j (Nat.lt_of_succ_lt_succ g1) (Nat.lt_of_succ_lt_succ g2)
      · simp only [List.length_cons, Nat.succ_min_succ]
        rw [show Nat.succ = (· + 1) from rfl]
        simp only [List.range_succ_eq_map, List.all_cons, List.all_map]
        rw [← k2]
        rfl
    · cases h
theorem eqI_ll {n : Nat} {x y : IV} {xs ys : List IV} (hx : lstOf st x = some xs) (hy : lstOf st y = some ys) : eqI st (n + 1) x y = if xs.length = ys.length then eqAll (eqI st n) xs ys else some false := by
  cases x <;> first
    | (cases hx; done)
    | (cases y <;> first
      | (cases hy; done)
      | (unfold eqI; simp only [hx, hy]))
theorem eqI_ln {n : Nat} {x y : IV} {xs : List IV} {b : Bool} (hx : lstOf st x = some xs) (hy : lstOf st y = none) (h : eqI st (n + 1) x y = some b) : b = false := by
  cases x <;> first
    | (cases hx; done)
    | (cases y <;> first
      | (cases hy; done)
      | (unfold eqI at h
         simp only [hx, hy] at h
         split at h
         · cases h; rfl
         · cases h))
theorem eqI_nl {n : Nat} {x y : IV} {ys : List IV} {b : Bool} (hx : lstOf st x = none) (hy : lstOf st y = some ys) (h : eqI st (n + 1) x y = some b) : b = false := by
  cases y <;> first
    | (cases hy; done)
    | (cases x <;> first
      | (cases hx; done)
      | (unfold eqI at h
         simp only [hx, hy] at h
         split at h
         · cases h; rfl
         · cases h))
theorem eqI_dat {n : Nat} {x y : IV} {b : Bool} (h : eqI st (n + 1) x y = some b) : isDat st x = true ∧ isDat st y = true := by
  have lc : ∀ {x y : IV} {q : Option Bool}, (match lstOf st x, lstOf st y with
      | some xs, some ys => if xs.length = ys.length then eqAll (eqI st n) xs ys else some false
      | _, _ => if isDat st x && isDat st y then some false else none) = some b → isDat st x = true ∧ isDat st y = true := fun {x y q} h => by
    cases hx : lstOf st x with
    | some xs =>
      cases hy : lstOf st y with
      | some ys => exact ⟨isDat_lst hx, isDat_lst hy⟩
      | none =>
        simp only [hx, hy] at h
        split at h
        · rename_i q
          exact Bool.and_eq_true_iff.mp q
        · cases h
    | none =>
      simp only [hx] at h
      split at h
      · rename_i q
        exact Bool.and_eq_true_iff.mp q
      · cases h
  cases x <;> cases y <;> first
    | exact ⟨rfl, rfl⟩
    | exact lc (q := none) h
theorem eqI_ln0 {n : Nat} {xs : List IV} {z : IV} (h : lstOf st z = none) : eqI st (n + 1) (.rl xs) z = (if isDat st z = true then some false else none) ∧ eqI st (n + 1) z (.rl xs) = (if isDat st z = true then some false else none) := by
  cases z with
  | ref a =>
    have h' : ioL st[a]? = none := h
    have d : isDat st (.ref a) = false := by
      show (ioL st[a]?).isSome = false
      rw [h']; rfl
    rw [d]
    constructor
    · unfold eqI
      simp only [h, d]
      rfl
    · unfold eqI
      simp only [h, d]
      rfl
  | rl ys => cases h
  | _ => exact ⟨rfl, rfl⟩
theorem eqI_sim : ∀ (n : Nat) (x y z : IV), Sim x y → eqI st n x z = eqI st n y z ∧ eqI st n z x = eqI st n z y
  | 0, _, _, _, _ => ⟨rfl, rfl⟩
  | n + 1, _, _, z, .same x => ⟨rfl, rfl⟩
  | n + 1, _, _, z, .obj c d ns h => by
    cases z <;> exact ⟨rfl, rfl⟩
  | n + 1, _, _, z, .fd ks js xs ys => by
    cases z <;> exact ⟨rfl, rfl⟩
  | n + 1, _, _, z, .cls c d => by
    cases z <;> exact ⟨rfl, rfl⟩
  | n + 1, .tup xs, .tup ys, z, .tup h => by
    cases z with
    | tup zs =>
      obtain ⟨h1, h2⟩ := eqAll_sim (eqI_sim n) (zs := zs) h
      constructor
      · show (eqAll (eqI st n) xs zs).map (fun b => b && xs.length == zs.length) = (eqAll (eqI st n) ys zs).map (fun b => b && ys.length == zs.length)
        rw [h1, h.length]
      · show (eqAll (eqI st n) zs xs).map (fun b => b && zs.length == xs.length) = (eqAll (eqI st n) zs ys).map (fun b => b && zs.length == ys.length)
        rw [h2, h.length]
    | _ => exact ⟨rfl, rfl⟩
  | n + 1, .rl xs, .rl ys, z, .rl h => by
    cases q : lstOf st z with
    | none => exact ⟨(eqI_ln0 q).1.trans (eqI_ln0 q).1.symm, (eqI_ln0 q).2.trans (eqI_ln0 q).2.symm⟩
    | some zs =>
      obtain ⟨h1, h2⟩ := eqAll_sim (eqI_sim n) (zs := zs) h
      rw [eqI_ll (x := .rl xs) rfl q, eqI_ll (x := .rl ys) rfl q, eqI_ll (y := .rl xs) q rfl, eqI_ll (y := .rl ys) q rfl, h1, h2, h.length]
      exact ⟨rfl, rfl⟩
/-- a comparison of data answers as eqI says -/
theorem eqI_at (I : Inv X pins σ H s) (m : Mt X.K H r st) : ∀ (n : Nat) (A : Around), A.units + n < cLine → ∀ (x y : IV) (b : Bool) (v w : V) (u1 u2 : Value), eqI st n x y = some b → RV X.K H r x v → RV X.K H r y w → RelV v u1 → RelV w u2 → Eq3 A s u1 u2 b
  | 0, _, _, _, _, _, _, _, _, _, h, _, _, _, _ => by cases h
  | n + 1, A, hu, x, y, b, v, w, u1, u2, h, rx, ry, q1, q2 => by
    obtain ⟨dx, dy⟩ := eqI_dat h
    have kx := kd_of I m rx q1 dx
    have ky := kd_of I m ry q2 dy
    have hu0 : A.units < cLine := by omega
    have ih := eqI_at I m n A.in1 (by show A.units + 1 + n < cLine; omega)
    have deep : ∀ {xs ys : List IV} {c : Bool} {vs ws : List V} {us us2 : List Value}, eqAll (eqI st n) xs ys = some c → RVs X.K H r xs vs → RVs X.K H r ys ws → Vals vs us → Vals ws us2 →
        ∃ e : Nat → Bool, (∀ j (h1 : j < us.length) (h2 : j < us2.length), EqAt A.in1 s us[j] us2[j] (e j)) ∧ (List.range (min us.length us2.length)).all e = c :=
      fun {xs ys c vs ws us us2} hc a1 a2 a3 a4 => eqAll_at (P := fun u w b => EqAt A.in1 s u w b) (fun x y b v w u1 u2 e1 e2 e3 e4 e5 => (ih x y b v w u1 u2 e1 e2 e3 e4 e5).eq) hc a1 a2 a3 a4
    have ref3 : ∀ {p q : Addr}, u1 = .ref p → u2 = .ref q → RcAt A s (.ref p) (.ref q) b → RcNeAt A s (.ref p) (.ref q) (!b) → Eq3 A s u1 u2 b := fun {p q} e1 e2 a1 a2 => by
      subst e1 e2
      refine ⟨a1, a2, ?_⟩
      by_cases e : p = q
      · subst e
        have ev : v = .ref p := by cases v <;> first | (cases q1; done) | (cases q1; rfl) | (obtain ⟨_, z⟩ := q1; cases z)
        have ew : w = .ref p := by cases w <;> first | (cases q2; done) | (cases q2; rfl) | (obtain ⟨_, z⟩ := q2; cases z)
        subst ev ew
        rw [← (eqI_sim _ _ _ x (RV.sim I m rx ry)).2] at h
        rw [eqI_refl _ _ _ h]
        exact .same _
      · exact .of_refs e a1
    cases kx with
    | non =>
      cases ky with
      | non => cases h; exact ⟨.none_none, .none_none, .same _⟩
      | bl c => cases h; exact ⟨.none_bool c, .none_bool c, .none_bool c⟩
      | int i t => cases h; exact ⟨.none_int i t, .none_int i t, .none_int i t⟩
      | str z t => cases h; exact ⟨.none_str z t, .none_str z t, .none_str z t⟩
      | tup p _ _ _ => cases h; exact ⟨.none_tuple p hu0, .none_tuple p hu0, .none_tuple p hu0⟩
      | lst hl p _ _ _ => cases eqI_nl rfl hl h; exact ⟨.none_list p hu0, .none_list p hu0, .none_list p hu0⟩
    | bl a =>
      cases ky with
      | non => cases h; exact ⟨.bool_none a, .bool_none a, .bool_none a⟩
      | bl c => cases h; exact ⟨.bool_bool a c, .bool_bool a c, .bool_bool a c⟩
      | int i t => cases h; exact ⟨.bool_int a i t, .bool_int a i t, .bool_int a i t⟩
      | str z t => cases h; exact ⟨.bool_str a z t, .bool_str a z t, .bool_str a z t⟩
      | tup p _ _ _ => cases h; exact ⟨.bool_tuple a p hu0, .bool_tuple a p hu0, .bool_tuple a p hu0⟩
      | lst hl p _ _ _ => cases eqI_nl rfl hl h; exact ⟨.bool_list a p hu0, .bool_list a p hu0, .bool_list a p hu0⟩
    | int a ta =>
      cases ky with
      | non => cases h; exact ⟨.int_none a ta, .int_none a ta, .int_none a ta⟩
      | bl c => cases h; exact ⟨.int_bool a ta c, .int_bool a ta c, .int_bool a ta c⟩
      | int i t => cases h; exact ⟨.int_int a ta i t, .int_int a ta i t, .int_int a ta i t⟩
      | str z t => cases h; exact ⟨.int_str a ta z t, .int_str a ta z t, .int_str a ta z t⟩
      | tup p _ _ _ => cases h; exact ⟨.int_tuple a ta p hu0, .int_tuple a ta p hu0, .int_tuple a ta p hu0⟩
      | lst hl p _ _ _ => cases eqI_nl rfl hl h; exact ⟨.int_list a ta p hu0, .int_list a ta p hu0, .int_list a ta p hu0⟩
    | str a ta =>
      cases ky with
      | non => cases h; exact ⟨.str_none a ta, .str_none a ta, .str_none a ta⟩
      | bl c => cases h; exact ⟨.str_bool a ta c, .str_bool a ta c, .str_bool a ta c⟩
      | int i t => cases h; exact ⟨.str_int a ta i t, .str_int a ta i t, .str_int a ta i t⟩
      | str z t => cases h; exact ⟨.str_str a ta z t, .str_str a ta z t, .str_str a ta z t⟩
      | tup p _ _ _ => cases h; exact ⟨.str_tuple a ta p hu0, .str_tuple a ta p hu0, .str_tuple a ta p hu0⟩
      | lst hl p _ _ _ => cases eqI_nl rfl hl h; exact ⟨.str_list a ta p hu0, .str_list a ta p hu0, .str_list a ta p hu0⟩
    | @tup p1 xs vs us p rs va _ =>
      cases ky with
      | non => cases h; exact ⟨.tuple_none p hu0, .tuple_none p hu0, .tuple_none p hu0⟩
      | bl c => cases h; exact ⟨.tuple_bool c p hu0, .tuple_bool c p hu0, .tuple_bool c p hu0⟩
      | int i t => cases h; exact ⟨.tuple_int i t p hu0, .tuple_int i t p hu0, .tuple_int i t p hu0⟩
      | str z t => cases h; exact ⟨.tuple_str z t p hu0, .tuple_str z t p hu0, .tuple_str z t p hu0⟩
      | lst hl p' _ _ _ => cases eqI_nl rfl hl h; exact ⟨.tuple_list p p' hu0, .tuple_list p p' hu0, .tuple_list p p' hu0⟩
      | @tup p2 ys ws us2 p' rs' va' _ =>
        have h : (eqAll (eqI st n) xs ys).map (fun b => b && xs.length == ys.length) = some b := h
        cases hc : eqAll (eqI st n) xs ys with
        | none => rw [hc] at h; cases h
        | some c =>
          rw [hc] at h
          obtain ⟨e, k1, k2⟩ := deep hc rs rs' va va'
          have e1 : us.length = xs.length := by rw [rs.length, va.length]
          have e2 : us2.length = ys.length := by rw [rs'.length, va'.length]
          have eb : ((List.range (min us.toArray.size us2.toArray.size)).all e && us.toArray.size == us2.toArray.size) = b := by
            rw [List.size_toArray, List.size_toArray, k2, e1, e2]
            exact Option.some.inj h
          refine ref3 rfl rfl ?_ ?_
          · rw [← eb]
            exact RcAt.tuples p p' hu0 fun j h1 h2 => by simpa using k1 j (by simpa using h1) (by simpa using h2)
          · rw [← eb]
            exact RcNeAt.tuples p p' hu0 fun j h1 h2 => by simpa using k1 j (by simpa using h1) (by simpa using h2)
    | @lst x1 p1 xs vs us hl p rs va _ =>
      cases ky with
      | non => cases eqI_ln hl rfl h; exact ⟨.list_none p hu0, .list_none p hu0, .list_none p hu0⟩
      | bl c => cases eqI_ln hl rfl h; exact ⟨.list_bool c p hu0, .list_bool c p hu0, .list_bool c p hu0⟩
      | int i t => cases eqI_ln hl rfl h; exact ⟨.list_int i t p hu0, .list_int i t p hu0, .list_int i t p hu0⟩
      | str z t => cases eqI_ln hl rfl h; exact ⟨.list_str z t p hu0, .list_str z t p hu0, .list_str z t p hu0⟩
      | tup p' _ _ _ => cases eqI_ln hl rfl h; exact ⟨.list_tuple p p' hu0, .list_tuple p p' hu0, .list_tuple p p' hu0⟩
      | @lst x2 p2 ys ws us2 hl' p' rs' va' _ =>
        rw [eqI_ll hl hl'] at h
        have e1 : us.length = xs.length := by rw [rs.length, va.length]
        have e2 : us2.length = ys.length := by rw [rs'.length, va'.length]
        by_cases hlen : xs.length = ys.length
        · rw [if_pos hlen] at h
          obtain ⟨e, k1, k2⟩ := deep h rs rs' va va'
          have hsz : us.toArray.size = us2.toArray.size := by rw [List.size_toArray, List.size_toArray, e1, e2, hlen]
          have eb : (List.range us.toArray.size).all e = b := by
            rw [← k2, List.size_toArray, e1, e2, hlen, Nat.min_self]
          refine ref3 rfl rfl ?_ ?_
          · rw [← eb]
            exact RcAt.lists p p' hsz hu0 fun j h1 h2 => by simpa using k1 j (by simpa using h1) (by simpa using h2)
          · rw [← eb]
            exact RcNeAt.lists p p' hsz hu0 fun j h1 h2 => by simpa using k1 j (by simpa using h1) (by simpa using h2)
        · rw [if_neg hlen] at h
          have hsz : (us.toArray.size != us2.toArray.size) = true := by rw [List.size_toArray, List.size_toArray, e1, e2]; simpa using hlen
          cases h
          exact ref3 rfl rfl (RcAt.lists_lengths p p' hsz hu0) (RcNeAt.lists_lengths p p' hsz hu0)
end
end Sm

set_option Elab.async false
set_option linter.all false
set_option maxRecDepth 100000
set_option maxHeartbeats 4000000
namespace Sm
open L2 PySem PySem.Spec
open PySem.SeqAt (EqAt RcAt RcNeAt)
/-! ### operations by values -/
/-- a list as it lies, its items -/
def lsAt (st : Hs) (x : IV) : Option (List IV) := lstOf st x
def seqOf (st : Hs) : IV → Option (List IV)
  | .tup xs => some xs
  | x => lstOf st x
def big : Nat := 16777216
theorem big_eq : big = sizeLine := sizeLine_eq.symm
def oAdd : O2 := fun x y st => match x, y with
  | .int i, .int j => some (.int (i + j), st)
  | .str a, .str b => if a.length + b.length ≤ big then some (.str (a ++ b), st) else none
  | .tup xs, .tup ys => if xs.length + ys.length ≤ big then some (.tup (xs ++ ys), st) else none
  | .ref a, .ref b => match ioL st[a]?, ioL st[b]? with
    | some xs, some ys => if xs.length + ys.length ≤ big then some (.ref st.length, st ++ [.lst (xs ++ ys)]) else none
    | _, _ => none
  | _, _ => none
def oSub : O2 := fun x y st => match x, y with
  | .int i, .int j => some (.int (i - j), st)
  | _, _ => none
def oMul : O2 := fun x y st => match x, y with
  | .int i, .int j => if (-18446744073709551616 < i ∧ i < 18446744073709551616) ∨ (-18446744073709551616 < j ∧ j < 18446744073709551616) then some (.int (i * j), st) else none
  | _, _ => none
def oFdv : O2 := fun x y st => match x, y with
  | .int i, .int j => if 0 < j ∧ j < 1073741824 then some (.int (i / j), st) else none
  | _, _ => none
def oMod : O2 := fun x y st => match x, y with
  | .int i, .int j => if 0 < j then some (.int (i % j), st) else none
  | _, _ => none
def oPow : O2 := fun x y st => match x, y with
  | .int i, .int j => if 0 ≤ j ∧ (Builtin.Int.intBits i : Int) * j ≤ 134217728 then some (.int (i ^ j.toNat), st) else none
  | _, _ => none
def oEq : O2 := fun x y st => (eqI st 40 x y).map fun b => (.bl b, st)
def oNe : O2 := fun x y st => (eqI st 40 x y).map fun b => (.bl (!b), st)
def oLt : O2 := fun x y st => match x, y with
  | .int i, .int j => some (.bl (decide (i < j)), st)
  | _, _ => none
def oLe : O2 := fun x y st => match x, y with
  | .int i, .int j => some (.bl (decide (i ≤ j)), st)
  | _, _ => none
def oGt : O2 := fun x y st => match x, y with
  | .int i, .int j => some (.bl (decide (j < i)), st)
  | _, _ => none
def oGe : O2 := fun x y st => match x, y with
  | .int i, .int j => some (.bl (decide (j ≤ i)), st)
  | _, _ => none
/-- x among the items -/
def anyI (st : Hs) (x : IV) (xs : List IV) : Option Bool := if (xs.all fun y => (eqI st 40 y x).isSome) = true then some (xs.any fun y => eqI st 40 y x == some true) else none
def inI (st : Hs) (x y : IV) : Option Bool := match y with
  | .str z => match x with
    | .str w => if w.cps.size = 1 then some (decide (w.cps.getD 0 0 ∈ z.cps.toList)) else none
    | _ => none
  | y => (seqOf st y).bind (anyI st x)
def oIn : O2 := fun x y st => (inI st x y).map fun b => (.bl b, st)
def oNotIn : O2 := fun x y st => (inI st x y).map fun b => (.bl (!b), st)
def oIsN : O2 := fun x y st => match y with
  | .non => some (.bl (match x with | .non => true | _ => false), st)
  | _ => none
def oNotN : O2 := fun x y st => match y with
  | .non => some (.bl (match x with | .non => false | _ => true), st)
  | _ => none

section
variable {X : Cx}
theorem or_add : OpR X (binaryOp .Add) (rM2 X.K oAdd) := by
  intro pins s σ H x' y' v u Q I rx ry ⟨r, x, y, st, m, hx, hy, h⟩
  cases hx <;> cases hy <;> first
    | exact (show False from h).elim
    | skip
  · exact op_add pins s σ H _ _ v u Q I rx ry ⟨_, _, rfl, rfl, h r H _ Xt.refl m (.int _)⟩
  · rename_i a b
    unfold oAdd at h
    by_cases q : a.length + b.length ≤ big
    · simp only [if_pos q] at h
      exact op_add_str pins s σ H _ _ v u Q I rx ry ⟨_, _, rfl, rfl, by rw [← big_eq]; exact q, h r H _ Xt.refl m (.str _)⟩
    · simp only [if_neg q] at h
  · rename_i p vs xs ht hs p2 vs2 xs2 ht2 hs2
    unfold oAdd at h
    by_cases q : xs.length + xs2.length ≤ big
    · simp only [if_pos q] at h
      refine op_catA pins s σ H _ _ v u Q I rx ry ⟨_, _, _, _, rfl, rfl, ht, ht2, by rw [← big_eq, ← hs.length, ← hs2.length]; exact q, fun e => ?_, fun n e => ?_, fun n n2 p3 hp => ?_⟩
      · subst e
        cases hs
        exact h r H _ Xt.refl m (.tup ht2 hs2)
      · subst e
        cases hs2
        rw [List.append_nil] at h
        exact h r H _ Xt.refl m (.tup ht hs)
      · exact h r _ _ (Xt.aside hp) (m.aside hp) (.tup (.inl (.inl (upd_same))) (RVs.mono (Xt.aside hp) m (hs.append hs2)))
    · simp only [if_neg q] at h
  · rename_i a p hp b p2 hp2
    unfold oAdd at h
    dsimp only at h
    cases q1 : ioL st[a]? with
    | none => rw [q1] at h; exact h.elim
    | some xs =>
      cases q2 : ioL st[b]? with
      | none => rw [q1, q2] at h; exact h.elim
      | some ys =>
        rw [q1, q2] at h
        dsimp only at h
        obtain ⟨vs, e1, rs1⟩ := m.at_ a _ _ (ioL_some q1) hp
        obtain ⟨vs2, e2, rs2⟩ := m.at_ b _ _ (ioL_some q2) hp2
        by_cases q : xs.length + ys.length ≤ big
        · simp only [if_pos q] at h
          refine op_cat pins s σ H _ _ v u Q I rx ry ⟨_, _, _, _, rfl, rfl, e1, e2, by rw [← big_eq, ← rs1.length, ← rs2.length]; exact q, fun p3 h3 => ?_⟩
          exact h (r ++ [p3]) _ _ (Xt.new h3) (m.new h3 ⟨_, upd_same, RVs.mono (Xt.new h3) m (rs1.append rs2)⟩) (RV.last m)
        · simp only [if_neg q] at h
theorem or_sub : OpR X (binaryOp .Sub) (rM2 X.K oSub) := by
  intro pins s σ H x' y' v u Q I rx ry ⟨r, x, y, st, m, hx, hy, h⟩
  cases hx <;> cases hy <;> first
    | exact (show False from h).elim
    | skip
  exact op_sub pins s σ H _ _ v u Q I rx ry ⟨_, _, rfl, rfl, h r H _ Xt.refl m (.int _)⟩
theorem or_mul : OpR X (binaryOp .Mult) (rM2 X.K oMul) := by
  intro pins s σ H x' y' v u Q I rx ry ⟨r, x, y, st, m, hx, hy, h⟩
  cases hx <;> cases hy <;> first
    | exact (show False from h).elim
    | skip
  rename_i i j
  unfold oMul at h
  by_cases q : (-18446744073709551616 < i ∧ i < 18446744073709551616) ∨ (-18446744073709551616 < j ∧ j < 18446744073709551616)
  · simp only [if_pos q] at h
    exact op_mul pins s σ H _ _ v u Q I rx ry ⟨_, _, rfl, rfl, q, h r H _ Xt.refl m (.int _)⟩
  · simp only [if_neg q] at h
theorem or_fdv : OpR X (binaryOp .FloorDiv) (rM2 X.K oFdv) := by
  intro pins s σ H x' y' v u Q I rx ry ⟨r, x, y, st, m, hx, hy, h⟩
  cases hx <;> cases hy <;> first
    | exact (show False from h).elim
    | skip
  rename_i i j
  unfold oFdv at h
  by_cases q : 0 < j ∧ j < 1073741824
  · simp only [if_pos q] at h
    exact op_fdiv pins s σ H _ _ v u Q I rx ry ⟨_, _, rfl, rfl, q, h r H _ Xt.refl m (.int _)⟩
  · simp only [if_neg q] at h
theorem or_mod : OpR X (binaryOp .Mod) (rM2 X.K oMod) := by
  intro pins s σ H x' y' v u Q I rx ry ⟨r, x, y, st, m, hx, hy, h⟩
  cases hx <;> cases hy <;> first
    | exact (show False from h).elim
    | skip
  rename_i i j
  unfold oMod at h
  by_cases q : 0 < j
  · simp only [if_pos q] at h
    exact op_mod pins s σ H _ _ v u Q I rx ry ⟨_, _, rfl, rfl, q, h r H _ Xt.refl m (.int _)⟩
  · simp only [if_neg q] at h
theorem op_powW : OpR X (binaryOp .Pow) (rI (fun i j => 0 ≤ j ∧ (Builtin.Int.intBits i : Int) * j ≤ 2 ^ 27) fun i j => .int (i ^ j.toNat)) := opI fun i j _ _ _ _ _ hc q => PyProof.Rows.pow_int hc.1 hc.2 q
theorem or_pow : OpR X (binaryOp .Pow) (rM2 X.K oPow) := by
  intro pins s σ H x' y' v u Q I rx ry ⟨r, x, y, st, m, hx, hy, h⟩
  cases hx <;> cases hy <;> first
    | exact (show False from h).elim
    | skip
  rename_i i j
  unfold oPow at h
  by_cases q : 0 ≤ j ∧ (Builtin.Int.intBits i : Int) * j ≤ 134217728
  · simp only [if_pos q] at h
    exact op_powW pins s σ H _ _ v u Q I rx ry ⟨_, _, rfl, rfl, ⟨q.1, Int.le_trans q.2 (by decide)⟩, h r H _ Xt.refl m (.int _)⟩
  · simp only [if_neg q] at h
theorem or_eq (hu : X.A.units + 64 < cLine) : OpR X (compareOp .Eq) (rM2 X.K oEq) := by
  intro pins s σ H x' y' v u Q I rx ry ⟨r, x, y, st, m, hx, hy, h⟩
  unfold oEq at h
  cases q : eqI st 40 x y with
  | none => rw [q] at h; exact h.elim
  | some b =>
    rw [q] at h
    exact (eqI_at I m 40 X.A (by omega) x y b _ _ _ _ q hx hy rx ry).rc _ _ _ _ ⟨.bl b, H, I, rfl, h r H _ Xt.refl m (.bl b)⟩
theorem or_ne (hu : X.A.units + 64 < cLine) : OpR X (compareOp .NotEq) (rM2 X.K oNe) := by
  intro pins s σ H x' y' v u Q I rx ry ⟨r, x, y, st, m, hx, hy, h⟩
  unfold oNe at h
  cases q : eqI st 40 x y with
  | none => rw [q] at h; exact h.elim
  | some b =>
    rw [q] at h
    exact (eqI_at I m 40 X.A (by omega) x y b _ _ _ _ q hx hy rx ry).ne _ _ _ _ ⟨.bl (!b), H, I, rfl, h r H _ Xt.refl m (.bl (!b))⟩
theorem or_lt : OpR X (compareOp .Lt) (rM2 X.K oLt) := by
  intro pins s σ H x' y' v u Q I rx ry ⟨r, x, y, st, m, hx, hy, h⟩
  cases hx <;> cases hy <;> first
    | exact (show False from h).elim
    | skip
  exact op_lt pins s σ H _ _ v u Q I rx ry ⟨_, _, rfl, rfl, h r H _ Xt.refl m (.bl _)⟩
theorem or_le : OpR X (compareOp .LtE) (rM2 X.K oLe) := by
  intro pins s σ H x' y' v u Q I rx ry ⟨r, x, y, st, m, hx, hy, h⟩
  cases hx <;> cases hy <;> first
    | exact (show False from h).elim
    | skip
  exact op_le pins s σ H _ _ v u Q I rx ry ⟨_, _, rfl, rfl, h r H _ Xt.refl m (.bl _)⟩
theorem or_gt : OpR X (compareOp .Gt) (rM2 X.K oGt) := by
  intro pins s σ H x' y' v u Q I rx ry ⟨r, x, y, st, m, hx, hy, h⟩
  cases hx <;> cases hy <;> first
    | exact (show False from h).elim
    | skip
  exact op_gt pins s σ H _ _ v u Q I rx ry ⟨_, _, rfl, rfl, h r H _ Xt.refl m (.bl _)⟩
theorem or_ge : OpR X (compareOp .GtE) (rM2 X.K oGe) := by
  intro pins s σ H x' y' v u Q I rx ry ⟨r, x, y, st, m, hx, hy, h⟩
  cases hx <;> cases hy <;> first
    | exact (show False from h).elim
    | skip
  exact op_ge pins s σ H _ _ v u Q I rx ry ⟨_, _, rfl, rfl, h r H _ Xt.refl m (.bl _)⟩
theorem or_isN : OpR X (compareOp .Is) (rM2 X.K oIsN) := by
  intro pins s σ H x' y' v u Q I rx ry ⟨r, x, y, st, m, hx, hy, h⟩
  cases hy <;> first
    | exact (show False from h).elim
    | skip
  cases hx <;> exact op_isN pins s σ H _ _ v u Q I rx ry ⟨rfl, h r H _ Xt.refl m (.bl _)⟩
theorem or_notN : OpR X (compareOp .IsNot) (rM2 X.K oNotN) := by
  intro pins s σ H x' y' v u Q I rx ry ⟨r, x, y, st, m, hx, hy, h⟩
  cases hy <;> first
    | exact (show False from h).elim
    | skip
  cases hx <;> exact op_notN pins s σ H _ _ v u Q I rx ry ⟨rfl, h r H _ Xt.refl m (.bl _)⟩

variable {pins : List (Addr × Obj)} {s : Shared} {σ : L2.St} {H : Hp} {r : List Addr} {st : Hs}
/-- the items' answers, by their values -/
theorem any_at (I : Inv X pins σ H s) (m : Mt X.K H r st) (hu : X.A.units + 64 < cLine) {x : IV} {x' : V} {w : Value} (hx : RV X.K H r x x') (rx : RelV x' w) {xs : List IV} {b : Bool} (h : anyI st x xs = some b) {vs : List V} {us : List Value} (rs : RVs X.K H r xs vs) (va : Vals vs us) :
    ∃ e : Value → Bool, (∀ y ∈ us, EqAt X.A.in1 s y w (e y)) ∧ us.any e = b := by
  unfold anyI at h
  split at h
  · rename_i hall
    classical
    let e : Value → Bool := fun u => decide (∃ y v, RV X.K H r y v ∧ RelV v u ∧ eqI st 40 y x = some true)
    have he : ∀ {y : IV} {v : V} {u : Value}, RV X.K H r y v → RelV v u → ∀ c, eqI st 40 y x = some c → e u = c := fun {y v u} q1 q2 c q3 => by
      cases c with
      | true => exact decide_eq_true ⟨y, v, q1, q2, q3⟩
      | false =>
        refine decide_eq_false ?_
        rintro ⟨y2, v2, k1, k2, k3⟩
        have ev := RelV.inj k2 q2
        subst ev
        rw [(eqI_sim _ _ _ x (RV.sim I m k1 q1)).1, q3] at k3
        cases k3
    refine ⟨e, ?_, ?_⟩
    · have go : ∀ {xs : List IV} {vs : List V} {us : List Value}, (xs.all fun y => (eqI st 40 y x).isSome) = true → RVs X.K H r xs vs → Vals vs us → ∀ y ∈ us, EqAt X.A.in1 s y w (e y) := by
        intro xs
        induction xs with
        | nil =>
          intro vs us _ k1 k2 y hy
          cases k1; cases k2
          cases hy
        | cons z zs ih =>
          intro vs us ha k1 k2 y hy
          cases k1 with | cons rz rzs =>
          cases k2 with | cons vz vzs =>
          rw [List.all_cons, Bool.and_eq_true] at ha
          rcases List.mem_cons.mp hy with q | q
          · subst q
            obtain ⟨c, hc⟩ := Option.isSome_iff_exists.mp ha.1
            rw [he rz vz c hc]
            exact (eqI_at I m 40 X.A.in1 (by show X.A.units + 1 + 40 < cLine; omega) z x c _ _ _ _ hc rz hx vz rx).eq
          · exact ih ha.2 rzs vzs y q
      exact go hall rs va
    · have go : ∀ {xs : List IV} {vs : List V} {us : List Value}, (xs.all fun y => (eqI st 40 y x).isSome) = true → RVs X.K H r xs vs → Vals vs us → us.any e = xs.any fun y => eqI st 40 y x == some true := by
        intro xs
        induction xs with
        | nil =>
          intro vs us _ k1 k2
          cases k1; cases k2
          rfl
        | cons z zs ih =>
          intro vs us ha k1 k2
          cases k1 with | cons rz rzs =>
          cases k2 with | cons vz vzs =>
          rw [List.all_cons, Bool.and_eq_true] at ha
          obtain ⟨c, hc⟩ := Option.isSome_iff_exists.mp ha.1
          rw [List.any_cons, List.any_cons, ih ha.2 rzs vzs, he rz vz c hc, hc]
          cases c <;> rfl
      rw [go hall rs va]
      exact Option.some.inj h
  · cases h
/-- what a list or tuple of the small heap is -/
inductive SqV (X : Cx) (s : Shared) (H : Hp) (r : List Addr) (xs : List IV) (p : Addr) : Prop where
  | l {vs : List V} {us : List Value} : SqL X.K H p vs → s.heap.IsList p us.toArray → RVs X.K H r xs vs → Vals vs us → SqV X s H r xs p
  | t {vs : List V} {us : List Value} : SqT X.K H p vs → s.heap.IsTuple p us.toArray → RVs X.K H r xs vs → Vals vs us → SqV X s H r xs p
theorem sqv_of (I : Inv X pins σ H s) (m : Mt X.K H r st) {y : IV} {y' : V} {u : Value} {xs : List IV} (h : seqOf st y = some xs) (hy : RV X.K H r y y') (ry : RelV y' u) : ∃ p, y' = .ref p ∧ u = .ref p ∧ SqV X s H r xs p := by
  cases hy with
  | tup ht hs =>
    cases h
    cases ry
    obtain ⟨its, va, pl, _⟩ := I.tuple ht
    exact ⟨_, rfl, rfl, .t ht pl hs va⟩
  | rl hl hs =>
    cases h
    cases ry
    obtain ⟨its, va, pl, _⟩ := I.list hl.sq
    exact ⟨_, rfl, rfl, .l hl.sq pl.isList hs va⟩
  | ref hp =>
    rename_i a p
    cases ry
    obtain ⟨vs, e1, rs⟩ := m.at_ a _ _ (ioL_some h) hp
    have hq : SqL X.K H p vs := .inl (.inl e1)
    obtain ⟨its, va, pl, _⟩ := I.list hq
    exact ⟨_, rfl, rfl, .l hq pl.isList rs va⟩
  | non => cases h
  | bl b => cases h
  | int i => cases h
  | str z => cases h
  | obj _ _ _ _ _ _ _ => cases h
  | fd _ _ _ _ => cases h
  | cls _ _ _ _ => cases h
theorem sign_of {w : Str} (h : w.cps.size = 1) : w = ⟨#[w.cps.getD 0 0]⟩ := by
  obtain ⟨⟨l⟩⟩ := w
  cases l with
  | nil => cases h
  | cons c l =>
    cases l with
    | nil => rfl
    | cons d l => simp at h
theorem or_in (hu : X.A.units + 64 < cLine) : OpR X (compareOp .In) (rM2 X.K oIn) := by
  intro pins s σ H x' y' v u Q I rx ry ⟨r, x, y, st, m, hx, hy, h⟩
  unfold oIn at h
  cases q : inI st x y with
  | none => rw [q] at h; exact h.elim
  | some b =>
    rw [q] at h
    have fin : EP X pins σ Q (.bool b) s := ⟨.bl b, H, I, rfl, h r H _ Xt.refl m (.bl b)⟩
    have sq : (seqOf st y).bind (anyI st x) = some b → wpAny (model X.prog X.w) X.A (compareOp .In v u) (EP X pins σ Q) X.xe s := fun q => by
      cases k : seqOf st y with
      | none => rw [k] at q; cases q
      | some xs =>
        rw [k] at q
        obtain ⟨p, rfl, rfl, z⟩ := sqv_of I m k hy ry
        cases z with
        | l hq pl rs va =>
          obtain ⟨e, h1, h2⟩ := any_at I m hu hx rx q rs va
          exact SeqAt.in_listAt e pl (fun y hy => h1 y (by simpa using hy)) (by rw [List.any_toArray, h2]; exact fin)
        | t hq pl rs va =>
          obtain ⟨e, h1, h2⟩ := any_at I m hu hx rx q rs va
          exact SeqAt.in_tupleAt e pl (fun y hy => h1 y (by simpa using hy)) (by rw [List.any_toArray, h2]; exact fin)
    cases y with
    | str z =>
      cases x with
      | str w =>
        unfold inI at q
        dsimp only at q
        split at q
        · rename_i k
          cases q
          cases hx
          cases hy
          exact op_in_sign pins s σ H _ _ v u Q I rx ry ⟨_, z, congrArg V.str (sign_of k), rfl, h r H _ Xt.refl m (.bl _)⟩
        · cases q
      | _ => cases q
    | _ => exact sq q
theorem or_notIn (hu : X.A.units + 64 < cLine) : OpR X (compareOp .NotIn) (rM2 X.K oNotIn) := by
  intro pins s σ H x' y' v u Q I rx ry ⟨r, x, y, st, m, hx, hy, h⟩
  unfold oNotIn at h
  cases q : inI st x y with
  | none => rw [q] at h; exact h.elim
  | some b =>
    rw [q] at h
    have fin : EP X pins σ Q (.bool (!b)) s := ⟨.bl (!b), H, I, rfl, h r H _ Xt.refl m (.bl (!b))⟩
    have sq : (seqOf st y).bind (anyI st x) = some b → wpAny (model X.prog X.w) X.A (compareOp .NotIn v u) (EP X pins σ Q) X.xe s := fun q => by
      cases k : seqOf st y with
      | none => rw [k] at q; cases q
      | some xs =>
        rw [k] at q
        obtain ⟨p, rfl, rfl, z⟩ := sqv_of I m k hy ry
        cases z with
        | l hq pl rs va =>
          obtain ⟨e, h1, h2⟩ := any_at I m hu hx rx q rs va
          exact SeqAt.notIn_listAt e pl (fun y hy => h1 y (by simpa using hy)) (by rw [List.any_toArray, h2]; exact fin)
        | t hq pl rs va =>
          obtain ⟨e, h1, h2⟩ := any_at I m hu hx rx q rs va
          exact SeqAt.notIn_tupleAt e pl (fun y hy => h1 y (by simpa using hy)) (by rw [List.any_toArray, h2]; exact fin)
    cases y with
    | str z =>
      cases x with
      | str w =>
        unfold inI at q
        dsimp only at q
        split at q
        · rename_i k
          cases q
          cases hx
          cases hy
          exact op_notIn_sign pins s σ H _ _ v u Q I rx ry ⟨_, z, congrArg V.str (sign_of k), rfl, h r H _ Xt.refl m (.bl _)⟩
        · cases q
      | _ => cases q
    | _ => exact sq q
end
end Sm

set_option Elab.async false
set_option linter.all false
set_option maxRecDepth 100000
set_option maxHeartbeats 4000000
namespace Sm
open L2 PySem PySem.Spec
/-! ### items, slices, displays, calls of builtins -/
def oIx : O2 := fun x y st => match y with
  | .int i => match x with
    | .str z => if z.length ≤ big then (atI z.cps.toList i).map fun c => (.str ⟨#[c]⟩, st) else none
    | x => (seqOf st x).bind fun xs => (atI xs i).map fun v => (v, st)
  | _ => none
def cutI {α : Type} (xs : List α) (lo hi : Option Int) : List α := (xs.drop (HT.sIx xs.length 0 lo)).take (HT.sIx xs.length xs.length hi - HT.sIx xs.length 0 lo)
def newL (st : Hs) (xs : List IV) : Option (IV × Hs) := some (.ref st.length, st ++ [.lst xs])
def oSl (x : IV) (lo hi : Option Int) (st : Hs) : Option (IV × Hs) := match x with
  | .tup xs => some (.tup (cutI xs lo hi), st)
  | .str z => if z.length ≤ big then some (.str ⟨(cutI z.cps.toList lo hi).toArray⟩, st) else none
  | x => (lstOf st x).bind fun xs => newL st (cutI xs lo hi)
/-- a slice's ends -/
def mNo : Env → M (Option Int) := fun _ => ret none
def mPt (m : ME) : Env → M (Option Int) := fun env => bnd (m env) fun x => match x with
  | .int i => ret (some i)
  | _ => stuck
def mSl (e : ME) (lo hi : Env → M (Option Int)) : ME := fun env => bnd (e env) fun x => bnd (lo env) fun l => bnd (hi env) fun h => fun st => lf (oSl x l h st)
def maN : MA := fun _ => ret []
def maC (e : ME) (es : MA) : MA := fun env => bnd (e env) fun x => bnd (es env) fun xs => ret (x :: xs)
def mTup (es : MA) : ME := fun env => bnd (es env) fun xs => if xs.length ≤ big then ret (.tup xs) else stuck
def mLst (es : MA) : ME := fun env => bnd (es env) fun xs => if xs.length ≤ big then (fun st => lf (newL st xs)) else stuck
def mDct : ME := fun _ st => .ok (.ref st.length) (st ++ [.dct []])
/-- a function without exceptions, by its arguments -/
abbrev On := List IV → Hs → Option (IV × Hs)
def mB (f : On) (es : MA) : ME := fun env => bnd (es env) fun xs st => lf (f xs st)
def bLen : On := fun xs st => match xs with
  | [.str z] => if z.length ≤ big then some (.int z.length, st) else none
  | [x] => (seqOf st x).map fun xs => (.int xs.length, st)
  | _ => none
def bAbs : On := fun xs st => match xs with
  | [.int i] => some (.int (if i < 0 then -i else i), st)
  | _ => none
def bMax : On := fun xs st => match xs with
  | [.int i, .int j] => some (.int (if j > i then j else i), st)
  | _ => none
def bMin : On := fun xs st => match xs with
  | [.int i, .int j] => some (.int (if j < i then j else i), st)
  | _ => none
def bInt : On := fun xs st => match xs with
  | [.int i] => some (.int i, st)
  | [.bl k] => some (.int (if k then 1 else 0), st)
  | _ => none
def bList : On := fun xs st => match xs with
  | [x] => (seqOf st x).bind fun xs => newL st xs
  | _ => none
def bTuple : On := fun xs st => match xs with
  | [x] => (seqOf st x).map fun xs => (.tup xs, st)
  | _ => none
def blsOf : List IV → Option (List Bool)
  | [] => some []
  | .bl b :: xs => (blsOf xs).map (b :: ·)
  | _ :: _ => none
def bAll : On := fun xs st => match xs with
  | [x] => (lstOf st x).bind fun xs => (blsOf xs).map fun bs => (.bl (bs.all id), st)
  | _ => none
def bAny : On := fun xs st => match xs with
  | [x] => (lstOf st x).bind fun xs => (blsOf xs).map fun bs => (.bl (bs.any id), st)
  | _ => none
/-- a value's type by name -/
def tyName (st : Hs) : IV → Option String
  | .non => some "NoneType"
  | .bl _ => some "bool"
  | .int _ => some "int"
  | .str _ => some "str"
  | .tup _ => some "tuple"
  | .rl _ => some "list"
  | .ref a => match st[a]? with
    | some (.lst _) => some "list"
    | some (.dct _) => some "dict"
    | _ => none
  | .obj _ _ _ => none
  | .fd _ _ => none
  | .cls _ => none
def subTy (s t : String) : Bool := s == t || (s == "bool" && t == "int")
def mIsi (T : String) (e : ME) : ME := fun env => bnd (e env) fun x st => lf ((tyName st x).map fun s => (.bl (subTy s T), st))
def strsOf : List IV → Option (List Str)
  | [] => some []
  | .str b :: xs => (strsOf xs).map (b :: ·)
  | _ :: _ => none
def oJoin : O2 := fun x y st => match x with
  | .str a => (seqOf st y).bind fun xs => (strsOf xs).bind fun ys => if (ys.map (·.length)).sum + ys.length * a.length ≤ big then some (.str (Txt.join a ys), st) else none
  | _ => none
def mJoin (o e : ME) : ME := fun env => bnd (o env) fun x => match x with
  | .str a => bnd (e env) fun y st => lf (oJoin (.str a) y st)
  | _ => stuck
/-- o.m(..) of a list -/
def mMth (f : IV → On) (o : ME) (es : MA) : ME := fun env => bnd (o env) fun x => bnd (fun st => match ioL (match x with | .ref a => st[a]? | _ => none) with | some _ => .ok () st | none => .no) fun _ => bnd (es env) fun xs st => lf (f x xs st)
def tAppend : IV → On := fun x vs st => match x, vs with
  | .ref a, [v] => (ioL st[a]?).bind fun xs => if xs.length < big then some (.non, st.set a (.lst (xs ++ [v]))) else none
  | _, _ => none
def tPop : IV → On := fun x vs st => match x, vs with
  | .ref a, [.int i] => (ioL st[a]?).bind fun xs => if -9223372036854775808 ≤ i ∧ i < 9223372036854775808 then (seqIndex? i xs.length).bind fun k => (xs[k]?).map fun y => (y, st.set a (.lst (xs.eraseIdx k))) else none
  | _, _ => none

section
variable {X : Cx} {W : WX} {pos : Pos}
section
variable {pins : List (Addr × Obj)} {s : Shared} {σ : L2.St} {H : Hp} {r : List Addr} {st : Hs}
/-- a list or tuple of the small heap, as an address -/
theorem seq_at (m : Mt X.K H r st) {y : IV} {y' : V} {xs : List IV} (h : seqOf st y = some xs) (hy : RV X.K H r y y') : ∃ p vs, y' = .ref p ∧ (SqL X.K H p vs ∨ SqT X.K H p vs) ∧ RVs X.K H r xs vs := by
  cases hy with
  | tup ht hs => cases h; exact ⟨_, _, rfl, .inr ht, hs⟩
  | rl hl hs => cases h; exact ⟨_, _, rfl, .inl hl.sq, hs⟩
  | ref hp =>
    obtain ⟨vs, e1, rs⟩ := m.at_ _ _ _ (ioL_some h) hp
    exact ⟨_, vs, rfl, .inl (.inl (.inl e1)), rs⟩
  | non => cases h
  | bl b => cases h
  | int i => cases h
  | str z => cases h
  | obj _ _ _ _ _ _ _ => cases h
  | fd _ _ _ _ => cases h
  | cls _ _ _ _ => cases h
theorem lst_at (m : Mt X.K H r st) {y : IV} {y' : V} {xs : List IV} (h : lstOf st y = some xs) (hy : RV X.K H r y y') : ∃ p vs, y' = .ref p ∧ SqL X.K H p vs ∧ RVs X.K H r xs vs := by
  cases hy with
  | tup ht hs => cases h
  | rl hl hs => cases h; exact ⟨_, _, rfl, hl.sq, hs⟩
  | ref hp =>
    obtain ⟨vs, e1, rs⟩ := m.at_ _ _ _ (ioL_some h) hp
    exact ⟨_, vs, rfl, .inl (.inl e1), rs⟩
  | non => cases h
  | bl b => cases h
  | int i => cases h
  | str z => cases h
  | obj _ _ _ _ _ _ _ => cases h
  | fd _ _ _ _ => cases h
  | cls _ _ _ _ => cases h
theorem rvs_atI {xs : List IV} {vs : List V} {i : Int} {x : IV} (rs : RVs X.K H r xs vs) (h : atI xs i = some x) : ∃ v, atI vs i = some v ∧ RV X.K H r x v := by
  unfold atI at h ⊢
  rw [rs.length] at h
  cases e : ixN vs.length i with
  | none => rw [e] at h; cases h
  | some j =>
    rw [e] at h
    obtain ⟨v, h1, h2⟩ := rs.get h
    exact ⟨v, h1, h2⟩
theorem rvs_cut {xs : List IV} {vs : List V} (rs : RVs X.K H r xs vs) (lo hi : Option Int) : RVs X.K H r (cutI xs lo hi) (cutV vs lo hi) := by
  unfold cutI cutV
  rw [rs.length]
  exact (rs.drop _).take _
end
theorem xr_ix : IxR X (rM2 X.K oIx) := by
  intro value slice pins s σ H x' y' v u Q I rx ry ⟨r, x, y, st, m, hx, hy, h⟩ hs
  cases y with
  | int i =>
    cases hy
    have sq : (seqOf st x).bind (fun xs => (atI xs i).map fun v => (v, st)) = oIx x (.int i) st → wpAny (model X.prog X.w) X.A (PyProof.Rows.subscriptTail value slice v u) (EP X pins σ Q) X.xe s := fun e => by
      rw [← e] at h
      cases k : seqOf st x with
      | none => rw [k] at h; exact h.elim
      | some xs =>
        rw [k] at h
        obtain ⟨p, vs, rfl, hq, rs⟩ := seq_at m k hx
        cases k2 : atI xs i with
        | none =>
          have h : (match (atI xs i).map (fun v => (v, st)) with | some (z, st') => ∀ r' H' v, Xt r H r' H' → Mt X.K H' r' st' → RV X.K H' r' z v → Q v H' | none => False) := h
          rw [k2] at h; exact h.elim
        | some z =>
          have h : (match (atI xs i).map (fun v => (v, st)) with | some (z, st') => ∀ r' H' v, Xt r H r' H' → Mt X.K H' r' st' → RV X.K H' r' z v → Q v H' | none => False) := h
          rw [k2] at h
          obtain ⟨w, e1, rw1⟩ := rvs_atI rs k2
          rcases hq with hq | hq
          · exact ix_list value slice pins s σ H _ _ v u Q I rx ry ⟨_, _, _, _, rfl, rfl, hq, e1, h r H w Xt.refl m rw1⟩ hs
          · exact ix_tup value slice pins s σ H _ _ v u Q I rx ry ⟨_, _, _, _, rfl, rfl, hq, e1, h r H w Xt.refl m rw1⟩ hs
    cases x with
    | str z =>
      cases hx
      unfold oIx at h
      dsimp only at h
      by_cases q : z.length ≤ big
      · rw [if_pos q] at h
        cases k : atI z.cps.toList i with
        | none => rw [k] at h; exact h.elim
        | some c =>
          rw [k] at h
          exact ix_str value slice pins s σ H _ _ v u Q I rx ry ⟨_, _, _, rfl, rfl, by rw [← big_eq]; exact q, k, h r H _ Xt.refl m (.str _)⟩ hs
      · rw [if_neg q] at h; exact h.elim
    | _ => exact sq rfl
  | _ => exact (show False from h).elim
variable {a b c o e : Expr} {ma mb mc mo : ME} {es : List Expr} {me : MA}
theorem pem_ix (ha : PEm X W a ma) (hb : PEm X W b mb) (hs : PlainIx b := by intro _ _; rfl) : PEm X W (.Subscript a b pos) (mBin oIx ma mb) :=
  PE.weak (pe_ix xr_ix ha hb hs) fun σ H Q ⟨r, env, st, he, hm, h⟩ => ⟨r, env, st, he, hm, h.split.imp fun v H1 ⟨x, r1, st1, x1, m1, rv, h1⟩ =>
    ⟨r1, env, st1, he.mono x1 hm, m1, h1.split.imp fun v2 H2 ⟨y, r2, st2, x2, m2, rv2, h2⟩ => rM2_of m2 (rv.mono x2 m1) rv2 h2⟩⟩
/-! slices -/
abbrev MO := Env → M (Option Int)
abbrev rO : Hp → List Addr → Option Int → Option Int → Prop := fun _ _ a b => a = b
abbrev tO (X : Cx) (W : WX) (m : MO) : TO := tG X W rO m
abbrev POm (X : Cx) (W : WX) (e : Option Expr) (m : MO) : Prop := PO X e (tO X W m)
theorem PO.weak {e : Option Expr} {t t' : TO} (h : PO X e t) (i : ∀ σ H Q, t' σ H Q → t σ H Q) : PO X e t' := ⟨fun pins s σ H Q I q => h.run pins s σ H Q I (i σ H Q q)⟩
theorem pom_no : POm X W none mNo := PO.weak po_none fun σ H Q ⟨r, env, st, he, hm, h⟩ => h r H none Xt.refl hm rfl
theorem pom_at (ha : PEm X W a ma) : POm X W (some a) (mPt ma) := PO.weak (po_some ha) fun σ H Q ⟨r, env, st, he, hm, h⟩ => ⟨r, env, st, he, hm, h.split.imp fun v H1 ⟨x, r1, st1, x1, m1, rv, h1⟩ => by
  cases rv with
  | int i => exact ⟨i, rfl, h1 r1 H1 (some i) Xt.refl m1 rfl⟩
  | _ => exact h1.elim⟩
def rMS (K : PySem.W.Frag) : V → Option Int → Option Int → Hp → VK → Prop := fun x' lo hi H Q => ∃ r x st, Mt K H r st ∧ RV K H r x x' ∧ match oSl x lo hi st with
  | some (z, st') => ∀ r' H' v, Xt r H r' H' → Mt K H' r' st' → RV K H' r' z v → Q v H'
  | none => False
theorem cutS_eq (z : Str) (lo hi : Option Int) : cutS z lo hi = ⟨(cutI z.cps.toList lo hi).toArray⟩ := by
  first
    | rfl
    | (unfold cutS cutI; simp [Str.length])
theorem sr_sl : L2.SlR X (rMS X.K) := by
  intro pins s σ H x' v vl vu lo hi sl Q I rx hs pl pu ⟨r, x, st, m, hx, h⟩
  have sq : (lstOf st x).bind (fun xs => newL st (cutI xs lo hi)) = oSl x lo hi st → ∃ T id, typeLookup (.type T) "__getitem__" = pure (some (.builtin id)) ∧ s.TypeIs v T ∧ wpAny (model X.prog X.w) X.A (getItem v (.ref sl)) (EP X pins σ Q) X.xe s := fun e => by
    rw [← e] at h
    cases k : lstOf st x with
    | none => rw [k] at h; exact h.elim
    | some xs =>
      rw [k] at h
      obtain ⟨p, vs, rfl, hq, rs⟩ := lst_at m k hx
      exact sl_list pins s σ H _ v vl vu lo hi sl Q I rx hs pl pu ⟨_, _, rfl, hq, fun p3 h3 => h (r ++ [p3]) _ _ (Xt.new h3) (m.new h3 ⟨_, upd_same, RVs.mono (Xt.new h3) m (rvs_cut rs lo hi)⟩) (RV.last m)⟩
  cases x with
  | tup xs =>
    cases hx
    rename_i p vs ht rs
    refine sl_tupA pins s σ H _ v vl vu lo hi sl Q I rx hs pl pu ⟨_, _, rfl, ht, fun e => ?_, fun e p3 h3 => ?_⟩
    · have ec : cutI xs lo hi = xs := by
        unfold cutI
        rw [rs.length, e.1, e.2, List.drop_zero, Nat.sub_zero, ← rs.length, List.take_length]
      have h : (match some (IV.tup (cutI xs lo hi), st) with | some (z, st') => ∀ r' H' v, Xt r H r' H' → Mt X.K H' r' st' → RV X.K H' r' z v → Q v H' | none => False) := h
      rw [ec] at h
      exact h r H _ Xt.refl m (.tup ht rs)
    · exact h r _ _ (Xt.aside h3) (m.aside h3) (.tup (.inl (.inl upd_same)) (RVs.mono (Xt.aside h3) m (rvs_cut rs lo hi)))
  | str z =>
    cases hx
    unfold oSl at h
    dsimp only at h
    by_cases q : z.length ≤ big
    · rw [if_pos q] at h
      exact sl_str pins s σ H _ v vl vu lo hi sl Q I rx hs pl pu ⟨_, rfl, by rw [← big_eq]; exact q, by rw [cutS_eq]; exact h r H _ Xt.refl m (.str _)⟩
    · rw [if_neg q] at h; exact h.elim
  | _ => exact sq rfl
theorem pem_sl {lo hi : Option Expr} {ml mh : MO} {p2 : Pos} (ha : PEm X W a ma) (hl : POm X W lo ml) (hh : POm X W hi mh) : PEm X W (.Subscript a (.Slice lo hi none p2) pos) (mSl ma ml mh) :=
  PE.weak (pe_slice sr_sl ha hl hh) fun σ H Q ⟨r, env, st, he, hm, h⟩ => ⟨r, env, st, he, hm, h.split.imp fun v H1 ⟨x, r1, st1, x1, m1, rv, h1⟩ =>
    ⟨r1, env, st1, he.mono x1 hm, m1, (h1.split (rel := rO)).imp fun v2 H2 ⟨l, r2, st2, x2, m2, e2, h2⟩ => by
      subst e2
      exact ⟨r2, env, st2, (he.mono x1 hm).mono x2 m1, m2, (h2.split (rel := rO)).imp fun v3 H3 ⟨l3, r3, st3, x3, m3, e3, h3⟩ => by
        subst e3
        refine ⟨r3, x, st3, m3, (rv.mono x2 m1).mono x3 m2, ?_⟩
        cases q : oSl x l l3 st3 with
        | none => rw [q] at h3; exact h3
        | some p => rw [q] at h3; exact h3⟩⟩⟩
/-! displays -/
theorem pam_nil : PAm X W [] maN := PA.weak pa_nil fun σ H Q ⟨r, env, st, he, hm, h⟩ => h r H [] Xt.refl hm .nil
theorem pam_cons (ha : PEm X W e ma) (hr : PAm X W es me) (hs : starEach (e :: es) X.env = (false, eval e X.env) :: starEach es X.env := by rfl) : PAm X W (e :: es) (maC ma me) :=
  PA.weak (pa_cons ha hr hs) fun σ H Q ⟨r, env, st, he, hm, h⟩ => ⟨r, env, st, he, hm, (h.split (rel := rV X.K)).imp fun v H1 ⟨x, r1, st1, x1, m1, rv, h1⟩ =>
    ⟨r1, env, st1, he.mono x1 hm, m1, (h1.split (rel := rVs X.K)).imp fun vs H2 ⟨xs, r2, st2, x2, m2, rvs, h2⟩ => h2 r2 H2 _ Xt.refl m2 (.cons (rv.mono x2 m1) rvs)⟩⟩
theorem pem_tup {x1 : Nat} (h : PAm X W es me) : PEm X W (.Tuple es x1 pos) (mTup me) :=
  PE.weak (pe_tup h) fun σ H Q ⟨r, env, st, he, hm, h⟩ => ⟨r, env, st, he, hm, (h.split (rel := rVs X.K)).imp fun vs H1 ⟨xs, r1, st1, x1, m1, rs, h1⟩ => by
    by_cases q : xs.length ≤ big
    · rw [if_pos q] at h1
      exact ⟨by rw [← big_eq, ← rs.length]; exact q, fun p hp => h1 r1 _ _ (Xt.aside hp) (m1.aside hp) (.tup (.inl (.inl upd_same)) (RVs.mono (Xt.aside hp) m1 rs))⟩
    · rw [if_neg q] at h1; exact h1.elim⟩
theorem pem_lst (h : PAm X W es me) : PEm X W (.List es pos) (mLst me) :=
  PE.weak (pe_lst h) fun σ H Q ⟨r, env, st, he, hm, h⟩ => ⟨r, env, st, he, hm, (h.split (rel := rVs X.K)).imp fun vs H1 ⟨xs, r1, st1, x1, m1, rs, h1⟩ => by
    by_cases q : xs.length ≤ big
    · rw [if_pos q] at h1
      exact ⟨by rw [← big_eq, ← rs.length]; exact q, fun p hp => h1 (r1 ++ [p]) _ _ (Xt.new hp) (m1.new hp ⟨_, upd_same, RVs.mono (Xt.new hp) m1 rs⟩) (RV.last m1)⟩
    · rw [if_neg q] at h1; exact h1.elim⟩
theorem pem_dct : PEm X W (.Dict [] [] pos) mDct :=
  PE.weak pe_dnewK fun σ H Q ⟨r, env, st, he, hm, h⟩ => fun p hp => h (r ++ [p]) _ _ (Xt.new hp) (hm.new hp ⟨[], upd_same, rfl, .nil⟩) (RV.last hm)
/-! calls of builtins -/
def rMs (K : PySem.W.Frag) (f : On) : List V → Hp → VK → Prop := fun vs H Q => ∃ r xs st, Mt K H r st ∧ RVs K H r xs vs ∧ match f xs st with
  | some (z, st') => ∀ r' H' v, Xt r H r' H' → Mt K H' r' st' → RV K H' r' z v → Q v H'
  | none => False
theorem rMs_of {f : On} {σ : L2.St} {r : List Addr} {H : Hp} {xs : List IV} {vs : List V} {st : Hs} {Q : VK} (m : Mt X.K H r st) (rs : RVs X.K H r xs vs) (h : Aft X W σ (rV X.K) r H (lf (f xs st)) Q) : rMs X.K f vs H Q := by
  refine ⟨r, xs, st, m, rs, ?_⟩
  cases q : f xs st with
  | none => rw [q] at h; exact h
  | some p => rw [q] at h; exact h
theorem tCB_of {f : On} {σ : L2.St} {H : Hp} {Q : VK} (h : tE X W (mB f me) σ H Q) : tCB (rMs X.K f) (tA X W me) σ H Q := by
  obtain ⟨r, env, st, he, hm, h⟩ := h
  exact ⟨r, env, st, he, hm, h.split.imp fun vs H1 ⟨xs, r1, st1, x1, m1, rs, h1⟩ => rMs_of m1 rs h1⟩
theorem pem_callB {x : Str} {id : String} {f : On} {p : Pos} (hc : CallR X (.builtin id) (rMs X.K f)) (ha : PAm X W (e :: es) me) (hg : Gl X x) (hm : X.mg x = none) (hv : bootBuiltins x = some (.builtin id)) (hn : x ≠ "__name__" := by decide) (hdb : (x == ("__debug__" : Str)) = false := by decide)
    (he : starEach (e :: es) X.env = (false, eval e X.env) :: starEach es X.env := by rfl) (hpl : (backTo pos (starEach es X.env)).any (·.1) = false := by rfl) : PEm X W (.Call (.Name x p) (e :: es) [] pos) (mB f me) :=
  PE.weak (pe_callB hc hg hm hv ha hn hdb he hpl) fun σ H Q h => tCB_of h
theorem pem_callTy {x : Str} {T : String} {f : On} {p : Pos} (hc : CallR X (.type T) (rMs X.K f)) (ha : PAm X W (e :: es) me) (hg : Gl X x) (hm : X.mg x = none) (hv : bootBuiltins x = some (.type T)) (hn : x ≠ "__name__" := by decide) (hdb : (x == ("__debug__" : Str)) = false := by decide)
    (he : starEach (e :: es) X.env = (false, eval e X.env) :: starEach es X.env := by rfl) (hpl : (backTo pos (starEach es X.env)).any (·.1) = false := by rfl) : PEm X W (.Call (.Name x p) (e :: es) [] pos) (mB f me) :=
  PE.weak (pe_callTy hc hg hm hv ha hn hdb he hpl) fun σ H Q h => tCB_of h
theorem CallR.weak {f : Value} {r r' : List V → Hp → VK → Prop} (h : CallR X f r) (i : ∀ xs H Q, r' xs H Q → r xs H Q) : CallR X f r' := fun pins s σ H xs us Q I rv q => h pins s σ H xs us Q I rv (i xs H Q q)
theorem rvs_one {K : PySem.W.Frag} {H : Hp} {r : List Addr} {x : IV} {vs : List V} (h : RVs K H r [x] vs) : ∃ v, vs = [v] ∧ RV K H r x v := by
  cases h with
  | cons a t => cases t; exact ⟨_, rfl, a⟩
theorem rvs_two {K : PySem.W.Frag} {H : Hp} {r : List Addr} {x y : IV} {vs : List V} (h : RVs K H r [x, y] vs) : ∃ v w, vs = [v, w] ∧ RV K H r x v ∧ RV K H r y w := by
  cases h with
  | cons a t => cases t with
    | cons b t => cases t; exact ⟨_, _, rfl, a, b⟩
theorem rMs_inv {K : PySem.W.Frag} {f : On} {vs : List V} {H : Hp} {Q : VK} (h : rMs K f vs H Q) : ∃ r xs st z st', f xs st = some (z, st') ∧ RVs K H r xs vs ∧ Mt K H r st ∧ ∀ r' H' v, Xt r H r' H' → Mt K H' r' st' → RV K H' r' z v → Q v H' := by
  obtain ⟨r, xs, st, m, rs, h⟩ := h
  cases e : f xs st with
  | none => rw [e] at h; exact h.elim
  | some p =>
    rw [e] at h
    exact ⟨r, xs, st, p.1, p.2, e, rs, m, h⟩
theorem cb_len : CallR X (.builtin "len") (rMs X.K bLen) := CallR.weak call_len fun vs H Q h0 => by
  obtain ⟨r, xs, st, z, st', e, rs, m, h⟩ := rMs_inv h0
  revert e rs
  unfold bLen
  split <;> intro e rs
  · rename_i z
    obtain ⟨v, rfl, rv⟩ := rvs_one rs
    cases rv
    by_cases q : z.length ≤ big
    · rw [if_pos q] at e
      cases e
      exact ⟨_, z.length, rfl, ⟨by rw [← big_eq]; exact q, rfl⟩, h r H _ Xt.refl m (.int _)⟩
    · rw [if_neg q] at e; cases e
  · rename_i x n
    obtain ⟨v, rfl, rx⟩ := rvs_one rs
    cases k : seqOf st x with
    | none => rw [k] at e; cases e
    | some ys =>
      rw [k] at e
      cases e
      obtain ⟨p, ws, rfl, hq, rs⟩ := seq_at m k rx
      refine ⟨_, ws.length, rfl, ?_, by rw [← rs.length]; exact h r H _ Xt.refl m (.int _)⟩
      rcases hq with hq | hq
      · exact .inl ⟨_, hq, rfl⟩
      · exact .inr ⟨_, hq, rfl⟩
  · cases e
theorem cb_abs : CallR X (.builtin "abs") (rMs X.K bAbs) := CallR.weak call_abs fun vs H Q h0 => by
  obtain ⟨r, xs, st, z, st', e, rs, m, h⟩ := rMs_inv h0
  revert e rs
  unfold bAbs
  split <;> intro e rs
  · obtain ⟨v, rfl, rv⟩ := rvs_one rs
    cases rv
    cases e
    exact ⟨_, rfl, h r H _ Xt.refl m (.int _)⟩
  · cases e
theorem cb_max (hc : X.calm = true) : CallR X (.builtin "max") (rMs X.K bMax) := CallR.weak (call_max2 hc) fun vs H Q h0 => by
  obtain ⟨r, xs, st, z, st', e, rs, m, h⟩ := rMs_inv h0
  revert e rs
  unfold bMax
  split <;> intro e rs
  · obtain ⟨v, w, rfl, rv, rw⟩ := rvs_two rs
    cases rv
    cases rw
    cases e
    exact ⟨_, _, rfl, h r H _ Xt.refl m (.int _)⟩
  · cases e
theorem cb_min (hc : X.calm = true) : CallR X (.builtin "min") (rMs X.K bMin) := CallR.weak (call_min2 hc) fun vs H Q h0 => by
  obtain ⟨r, xs, st, z, st', e, rs, m, h⟩ := rMs_inv h0
  revert e rs
  unfold bMin
  split <;> intro e rs
  · obtain ⟨v, w, rfl, rv, rw⟩ := rvs_two rs
    cases rv
    cases rw
    cases e
    exact ⟨_, _, rfl, h r H _ Xt.refl m (.int _)⟩
  · cases e
theorem ct_int : CallR X (.type "int") (rMs X.K bInt) := CallR.weak call_int1 fun vs H Q h0 => by
  obtain ⟨r, xs, st, z, st', e, rs, m, h⟩ := rMs_inv h0
  revert e rs
  unfold bInt
  split <;> intro e rs
  · obtain ⟨v, rfl, rv⟩ := rvs_one rs
    cases rv
    cases e
    exact .inl ⟨_, rfl, h r H _ Xt.refl m (.int _)⟩
  · obtain ⟨v, rfl, rv⟩ := rvs_one rs
    cases rv
    cases e
    exact .inr ⟨_, rfl, h r H _ Xt.refl m (.int _)⟩
  · cases e
theorem ct_list : CallR X (.type "list") (rMs X.K bList) := CallR.weak call_list_of fun vs H Q h0 => by
  obtain ⟨r, xs, st, z, st', e, rs, m, h⟩ := rMs_inv h0
  revert e rs
  unfold bList
  split <;> intro e rs
  · rename_i x
    obtain ⟨v, rfl, rv⟩ := rvs_one rs
    cases k : seqOf st x with
    | none => rw [k] at e; cases e
    | some ys =>
      rw [k] at e
      cases e
      obtain ⟨p, ws, rfl, hq, rs⟩ := seq_at m k rv
      exact ⟨_, _, rfl, hq, fun p3 h3 => h (r ++ [p3]) _ _ (Xt.new h3) (m.new h3 ⟨_, upd_same, RVs.mono (Xt.new h3) m rs⟩) (RV.last m)⟩
  · cases e
theorem ct_tuple : CallR X (.type "tuple") (rMs X.K bTuple) := CallR.weak call_tuple_of fun vs H Q h0 => by
  obtain ⟨r, xs, st, z, st', e, rs, m, h⟩ := rMs_inv h0
  revert e rs
  unfold bTuple
  split <;> intro e rs
  · rename_i x
    obtain ⟨v, rfl, rv⟩ := rvs_one rs
    cases k : seqOf st x with
    | none => rw [k] at e; cases e
    | some ys =>
      rw [k] at e
      cases e
      obtain ⟨p, ws, rfl, hq, rs⟩ := seq_at m k rv
      refine ⟨_, ws, rfl, ?_⟩
      rcases hq with hq | hq
      · exact .inl ⟨hq, fun p3 h3 => h r _ _ (Xt.aside h3) (m.aside h3) (.tup (.inl (.inl upd_same)) (RVs.mono (Xt.aside h3) m rs))⟩
      · exact .inr ⟨hq, h r H _ Xt.refl m (.tup hq rs)⟩
  · cases e
theorem bls_at {K : PySem.W.Frag} {H : Hp} {r : List Addr} : ∀ {xs : List IV} {bs : List Bool} {vs : List V}, blsOf xs = some bs → RVs K H r xs vs → vs = bs.map V.bl
  | [], _, _, h, .nil => by cases h; rfl
  | .bl b :: xs, bs, _, h, .cons q t => by
    cases q
    unfold blsOf at h
    cases k : blsOf xs with
    | none => rw [k] at h; cases h
    | some cs =>
      rw [k] at h
      cases h
      rw [bls_at k t]
      rfl
  | .non :: _, _, _, h, _ => by cases h
  | .int _ :: _, _, _, h, _ => by cases h
  | .str _ :: _, _, _, h, _ => by cases h
  | .tup _ :: _, _, _, h, _ => by cases h
  | .rl _ :: _, _, _, h, _ => by cases h
  | .ref _ :: _, _, _, h, _ => by cases h
  | .obj _ _ _ :: _, _, _, h, _ => by cases h
  | .fd _ _ :: _, _, _, h, _ => by cases h
  | .cls _ :: _, _, _, h, _ => by cases h
theorem cb_all (hc : X.calm = true) : CallR X (.builtin "all") (rMs X.K bAll) := CallR.weak (cr_all hc) fun vs H Q h0 => by
  obtain ⟨r, xs, st, z, st', e, rs, m, h⟩ := rMs_inv h0
  revert e rs
  unfold bAll
  split <;> intro e rs
  · rename_i x
    obtain ⟨v, rfl, rv⟩ := rvs_one rs
    cases k : lstOf st x with
    | none => rw [k] at e; cases e
    | some ys =>
      rw [k] at e
      cases k2 : blsOf ys with
      | none => simp only [Option.bind_some, k2] at e; cases e
      | some bs =>
        simp only [Option.bind_some, k2] at e
        cases e
        obtain ⟨p, ws, rfl, hq, rs⟩ := lst_at m k rv
        have e := bls_at k2 rs
        subst e
        exact ⟨_, bs, rfl, hq, h r H _ Xt.refl m (.bl _)⟩
  · cases e
theorem cb_any (hc : X.calm = true) : CallR X (.builtin "any") (rMs X.K bAny) := CallR.weak (cr_any hc) fun vs H Q h0 => by
  obtain ⟨r, xs, st, z, st', e, rs, m, h⟩ := rMs_inv h0
  revert e rs
  unfold bAny
  split <;> intro e rs
  · rename_i x
    obtain ⟨v, rfl, rv⟩ := rvs_one rs
    cases k : lstOf st x with
    | none => rw [k] at e; cases e
    | some ys =>
      rw [k] at e
      cases k2 : blsOf ys with
      | none => simp only [Option.bind_some, k2] at e; cases e
      | some bs =>
        simp only [Option.bind_some, k2] at e
        cases e
        obtain ⟨p, ws, rfl, hq, rs⟩ := lst_at m k rv
        have e := bls_at k2 rs
        subst e
        exact ⟨_, bs, rfl, hq, h r H _ Xt.refl m (.bl _)⟩
  · cases e
/-! isinstance -/
theorem ty_at {H : Hp} {r : List Addr} {st : Hs} (m : Mt X.K H r st) {x : IV} {v : V} {t : String} (h : tyName st x = some t) (rv : RV X.K H r x v) : TyX X.K H v (.type t) := by
  cases rv with
  | non => cases h; exact .base .non
  | bl b => cases h; exact .base (.bl b)
  | int i => cases h; exact .base (.int i)
  | str z => cases h; exact .base (.str z)
  | tup ht rs =>
    cases h
    rcases ht with (ht | ⟨o, ht⟩) | ⟨o, its, n, e, c, _⟩
    · exact .base (.tup ht)
    · exact .fTuple ht
    · exact .kTuple e c
  | rl hl rs =>
    cases h
    rcases hl with ⟨o, e⟩ | ⟨o, its, n, e, c, _⟩
    · exact .base (.frz e)
    · exact .kList e c
  | ref hp =>
    rename_i a p
    unfold tyName at h
    dsimp only at h
    split at h
    · rename_i k
      cases h
      obtain ⟨vs, e1, _⟩ := m.at_ _ _ _ k hp
      exact .base (.lst e1)
    · rename_i k
      cases h
      obtain ⟨_, e1, _⟩ := m.at_ _ _ _ k hp
      exact .base (.dK e1)
    · cases h
  | obj _ _ _ _ _ _ _ => cases h
  | fd _ _ _ _ => cases h
  | cls _ _ _ _ => cases h
theorem pem_isi {T : String} {xT : Str} {p p2 : Pos} (ha : PEm X W a ma) (hg : Gl X "isinstance") (hm : X.mg "isinstance" = none) (gT : Gl X xT) (mT : X.mg xT = none) (vT : bootBuiltins xT = some (.type T))
    (kit : ∀ t, t ∈ ["NoneType", "bool", "int", "str", "tuple", "list", "dict"] → kitB t T = some (subTy t T)) (hn : xT ≠ "__name__" := by decide) (hdb : (xT == ("__debug__" : Str)) = false := by decide)
    (s1 : starEach [a, .Name xT p2] X.env = (false, eval a X.env) :: starEach [.Name xT p2] X.env := by rfl) (s2 : starEach [.Name xT p2] X.env = (false, eval (.Name xT p2) X.env) :: starEach [] X.env := by rfl)
    (hpl : (backTo pos (starEach [.Name xT p2] X.env)).any (·.1) = false := by rfl) : PEm X W (.Call (.Name "isinstance" p) [a, .Name xT p2] [] pos) (mIsi T ma) :=
  PE.weak (pe_callB call_isi hg hm (by rfl) (pa_cons ha (pa_cons (pe_bltn gT mT vT (v := .ty T) rfl hn hdb) pa_nil s2) s1) (by decide) (by decide) s1 hpl) fun σ H Q ⟨r, env, st, he, hm, h⟩ => ⟨r, env, st, he, hm, h.split.imp fun v H1 ⟨x, r1, st1, x1, m1, rv, h1⟩ => by
    cases k : tyName st1 x with
    | none => rw [k] at h1; exact h1.elim
    | some t =>
      rw [k] at h1
      refine ⟨v, .ty T, .type t, .type T, subTy t T, rfl, .ty T, ty_at m1 k rv, kit_ty (kit t ?_), h1 r1 H1 _ Xt.refl m1 (.bl _)⟩
      cases x with
      | ref a =>
        unfold tyName at k
        dsimp only at k
        split at k
        · cases k; decide
        · cases k; decide
        · cases k
      | obj _ _ _ => cases k
      | fd _ _ => cases k
      | cls _ => cases k
      | _ => cases k; decide⟩
/-! ' '.join(..) -/
theorem strs_at {K : PySem.W.Frag} {H : Hp} {r : List Addr} : ∀ {xs : List IV} {bs : List Str} {vs : List V}, strsOf xs = some bs → RVs K H r xs vs → vs = bs.map V.str
  | [], _, _, h, .nil => by cases h; rfl
  | .str b :: xs, bs, _, h, .cons q t => by
    cases q
    unfold strsOf at h
    cases k : strsOf xs with
    | none => rw [k] at h; cases h
    | some cs =>
      rw [k] at h
      cases h
      rw [strs_at k t]
      rfl
  | .non :: _, _, _, h, _ => by cases h
  | .int _ :: _, _, _, h, _ => by cases h
  | .bl _ :: _, _, _, h, _ => by cases h
  | .tup _ :: _, _, _, h, _ => by cases h
  | .rl _ :: _, _, _, h, _ => by cases h
  | .ref _ :: _, _, _, h, _ => by cases h
  | .obj _ _ _ :: _, _, _, h, _ => by cases h
  | .fd _ _ :: _, _, _, h, _ => by cases h
  | .cls _ :: _, _, _, h, _ => by cases h
theorem pem_join {apos : Pos} (ho : PEm X W o mo) (he : PEm X W e ma) (hs : starEach [e] X.env = [(false, eval e X.env)] := by rfl) (hbase : attributeBase o "join" X.env (eval o X.env) = eval o X.env := by rfl) (hline : (apos.endLine == pos.line) = true := by rfl) :
    PEm X W (.Call (.Attribute o "join" apos) [e] [] pos) (mJoin mo ma) :=
  PE.weak (L2.pe_join ho he hs hbase hline) fun σ H Q ⟨r, env, st, he, hm, h⟩ => ⟨r, env, st, he, hm, h.split.imp fun v H1 ⟨x, r1, st1, x1, m1, rv, h1⟩ => by
    cases x with
    | str a =>
      cases rv
      refine ⟨⟨a, rfl⟩, r1, env, st1, he.mono x1 hm, m1, h1.split.imp fun v2 H2 ⟨y, r2, st2, x2, m2, rv2, h2⟩ => ?_⟩
      unfold oJoin at h2
      dsimp only at h2
      cases k : seqOf st2 y with
      | none => rw [k] at h2; exact h2.elim
      | some xs =>
        rw [k] at h2
        cases k2 : strsOf xs with
        | none => simp only [Option.bind_some, k2] at h2; exact h2.elim
        | some ys =>
          simp only [Option.bind_some, k2] at h2
          by_cases q : (ys.map (·.length)).sum + ys.length * a.length ≤ big
          · rw [if_pos q] at h2
            obtain ⟨p, ws, rfl, hq, rs⟩ := seq_at m2 k rv2
            have e := strs_at k2 rs
            subst e
            exact ⟨a, p, ys, rfl, rfl, hq, q, h2 r2 H2 _ Xt.refl m2 (.str _)⟩
          · rw [if_neg q] at h2; exact h2.elim
    | _ => exact h1.elim⟩
end
end Sm

set_option Elab.async false
set_option linter.all false
set_option maxRecDepth 100000
set_option maxHeartbeats 4000000
namespace Sm
open L2 PySem PySem.Spec
/-! ### statements -/
/-- what is known once a statement has ended in x -/
def AftS (X : Cx) (W : WX) (r : List Addr) (H : Hp) (x : RS) (D : Ends) : Prop := match x with
  | .nx e st => ∀ r' H' σ, Xt r H r' H' → Mt X.K H' r' st → REnv X.K H' r' e σ → D.nx σ H'
  | .bk e st => ∀ r' H' σ, Xt r H r' H' → Mt X.K H' r' st → REnv X.K H' r' e σ → D.bk σ H'
  | .ct e st => ∀ r' H' σ, Xt r H r' H' → Mt X.K H' r' st → REnv X.K H' r' e σ → D.ct σ H'
  | .rt x st => ∀ r' H' v, Xt r H r' H' → Mt X.K H' r' st → RV X.K H' r' x v → D.rt v H'
  | .ex a e st => ∀ r' H' σ cls d, Xt r H r' H' → Mt X.K H' r' st → REnv X.K H' r' e σ → ExR X.K X.mg H' r' a cls d → W cls d σ H'
  | .no => False
def tS (X : Cx) (W : WX) (m : MS) : TS := fun D σ H => ∃ r env st, REnv X.K H r env σ ∧ Mt X.K H r st ∧ AftS X W r H (m env st) D
abbrev PSm (X : Cx) (W : WX) (s : Stmt) (m : MS) : Prop := PS X s (tS X W m)
abbrev PSsm (X : Cx) (W : WX) (s : List Stmt) (m : MS) : Prop := PSs X s (tS X W m)
/-- an expression, then the rest of a statement -/
def sE {α : Type} (m : Env → M α) (k : α → MS) : MS := fun env st => match m env st with
  | .ok a st' => k a env st'
  | .ex e st' => .ex e env st'
  | .no => .no
def sNx : MS := fun env st => .nx env st
def sBk : MS := fun env st => .bk env st
def sCt : MS := fun env st => .ct env st
def sNo : MS := fun _ _ => .no
def sSeq (a b : MS) : MS := fun env st => match a env st with
  | .nx e st' => b e st'
  | r => r
def sRet (m : ME) : MS := sE m fun x _ st => .rt x st
def sRetN : MS := fun _ st => .rt .non st
def sExp (m : ME) : MS := sE m fun _ => sNx
def sIf (c : MT) (a b : MS) : MS := sE c fun t => if t then a else b
def sRaise (c : Str) : MS := fun env st => .ex ⟨c, []⟩ env st
/-! targets -/
abbrev MG := IV → Env → M Env
abbrev MGs := List IV → Env → M Env
def gNm (i : Nat) : MG := fun x env => ret (env.set i (some x))
def gsN : MGs := fun xs env => match xs with
  | [] => ret env
  | _ => stuck
def gsC (g : MG) (gs : MGs) : MGs := fun xs env => match xs with
  | x :: xs => bnd (g x env) (gs xs)
  | [] => stuck
def gTp (n : Nat) (gs : MGs) : MG := fun x env => match x with
  | .tup xs => if xs.length = n then gs xs env else stuck
  | _ => stuck
def setI (o i v : IV) (st : Hs) : Option Hs := match o, i with
  | .ref a, .int k => (ioL st[a]?).bind fun xs => (ixN xs.length k).map fun j => st.set a (.lst (xs.set j v))
  | _, _ => none
def gSb (o i : ME) : MG := fun v env => bnd (o env) fun x => bnd (i env) fun y => fun st => match setI x y v st with
  | some st' => .ok env st'
  | none => .no
def asNx (x : Rs Env) : RS := match x with
  | .ok e st => .nx e st
  | _ => .no
def sAsg (m : ME) (g : MG) : MS := sE m fun x env st => asNx (g x env st)
def sPar2 (i j : Nat) (ms : MA) : MS := sE ms fun xs env st => match xs with
  | [x, y] => .nx ((env.set i (some x)).set j (some y)) st
  | _ => .no
def sPar3 (i j l : Nat) (ms : MA) : MS := sE ms fun xs env st => match xs with
  | [x, y, z] => .nx (((env.set i (some x)).set j (some y)).set l (some z)) st
  | _ => .no
/-! what is walked over -/
inductive Src where
  | rng (lo : Int) (n : Nat)
  | seq (x : IV) (n : Nat)
  | txt (z : Str)
  | enu (x : IV) (n : Nat)
  | zip (x y : IV) (n : Nat)
def Src.n : Src → Nat
  | .rng _ n => n
  | .seq _ n => n
  | .txt z => z.cps.size
  | .enu _ n => n
  | .zip _ _ n => n
def pairAt (xs ys : List IV) (i : Nat) : Option IV := match xs[i]?, ys[i]? with
  | some a, some b => some (.tup [a, b])
  | _, _ => none
def Src.item : Src → Nat → Hs → Option IV
  | .rng lo n, i, _ => if i < n then some (.int (lo + i)) else none
  | .seq x n, i, st => (seqOf st x).bind fun xs => if xs.length = n then xs[i]? else none
  | .txt z, i, _ => z.cps[i]?.map fun c => .str ⟨#[c]⟩
  | .enu x n, i, st => (seqOf st x).bind fun xs => if xs.length = n then xs[i]?.map fun z => .tup [.int i, z] else none
  | .zip x y n, i, st => (seqOf st x).bind fun xs => (seqOf st y).bind fun ys => if min xs.length ys.length = n then pairAt xs ys i else none
def Src.fin : Src → Hs → Bool
  | .seq x n, st => match seqOf st x with
    | some xs => xs.length == n
    | none => false
  | .enu x n, st => match seqOf st x with
    | some xs => xs.length == n
    | none => false
  | .zip x y n, st => match seqOf st x, seqOf st y with
    | some xs, some ys => min xs.length ys.length == n
    | _, _ => false
  | _, _ => true
abbrev MI := Env → M Src
def iRg1 (ms : MA) : MI := fun env => bnd (ms env) fun xs => match xs with
  | [.int j] => if -4611686018427387904 ≤ j ∧ j < 4611686018427387904 then ret (.rng 0 j.toNat) else stuck
  | _ => stuck
def iRg2 (ms : MA) : MI := fun env => bnd (ms env) fun xs => match xs with
  | [.int i, .int j] => if -4611686018427387904 ≤ i ∧ i < 4611686018427387904 ∧ -4611686018427387904 ≤ j ∧ j < 4611686018427387904 then ret (.rng i (j - i).toNat) else stuck
  | _ => stuck
/-- a list is walked over -/
def iLs (m : ME) : MI := fun env => bnd (m env) fun x st => match lstOf st x with
  | some xs => .ok (.seq x xs.length) st
  | none => .no
/-- a tuple is walked over -/
def iTp (m : ME) : MI := fun env => bnd (m env) fun x st => match x with
  | .tup xs => .ok (.seq x xs.length) st
  | _ => .no
def iTx (m : ME) : MI := fun env => bnd (m env) fun x st => match x with
  | .str z => .ok (.txt z) st
  | _ => .no
def goFor (s : Src) (g : MG) (b : MS) : Nat → Nat → MS
  | 0, _, env, st => if s.fin st = true then .nx env st else .no
  | k + 1, i, env, st => match s.item i st with
    | none => .no
    | some x => match g x env st with
      | .ok env' st' => match b env' st' with
        | .nx e s' => goFor s g b k (i + 1) e s'
        | .ct e s' => goFor s g b k (i + 1) e s'
        | .bk e s' => .nx e s'
        | res => res
      | _ => .no
def sFor (i : MI) (g : MG) (b : MS) : MS := sE i fun s => goFor s g b s.n 0
def wipeI (env : Env) : List Nat → Env
  | [] => env
  | v :: vs => (wipeI env vs).set v none
/-- a comprehension's turns: the parts let no exception out -/
def goLc (s : Src) (g : MG) (c : MT) (m : ME) (env : Env) : Nat → Nat → List IV → M (List IV)
  | 0, _, acc, st => if s.fin st = true then .ok acc st else .no
  | k + 1, i, acc, st => match s.item i st with
    | none => .no
    | some x => match g x env st with
      | .ok env' st' => match c env' st' with
        | .ok true s2 => match m env' s2 with
          | .ok y s3 => if acc.length < big then goLc s g c m env k (i + 1) (acc ++ [y]) s3 else .no
          | _ => .no
        | .ok false s2 => goLc s g c m env k (i + 1) acc s2
        | _ => .no
      | _ => .no
def mLc (i : MI) (g : MG) (c : MT) (m : ME) (vs : List Nat) : ME := fun env => bnd (i env) fun s => bnd (goLc s g c m (wipeI env vs) s.n 0 []) fun xs st => .ok (.ref st.length) (st ++ [.lst xs])
def mtYes : MT := fun _ => ret true

section
variable {X : Cx} {W : WX} {pos : Pos} {r r' : List Addr} {H H' : Hp} {σ : L2.St} {env : Env} {st : Hs}
theorem AftS.later {x : RS} {D : Ends} (h : AftS X W r H x D) (e : Xt r H r' H') : AftS X W r' H' x D := by
  cases x with
  | no => exact h
  | nx env st => exact fun r2 H2 σ x2 => h r2 H2 σ (e.trans x2)
  | bk env st => exact fun r2 H2 σ x2 => h r2 H2 σ (e.trans x2)
  | ct env st => exact fun r2 H2 σ x2 => h r2 H2 σ (e.trans x2)
  | rt v st => exact fun r2 H2 v x2 => h r2 H2 v (e.trans x2)
  | ex a env st => exact fun r2 H2 σ c d x2 => h r2 H2 σ c d (e.trans x2)
theorem AftS.exp {α β : Type} {rel : Hp → List Addr → α → β → Prop} {m : Env → M α} {k : α → MS} {D : Ends} (he : REnv X.K H r env σ) (hm : Mt X.K H r st) (h : AftS X W r H (sE m k env st) D) :
    Aft X W σ rel r H (m env st) fun b H' => ∃ a r' st', Xt r H r' H' ∧ Mt X.K H' r' st' ∧ rel H' r' a b ∧ AftS X W r' H' (k a env st') D := by
  unfold sE at h
  cases q : m env st with
  | no => rw [q] at h; exact h
  | ex e st' => rw [q] at h; exact fun r' H' cls d x1 m1 hx => h r' H' σ cls d x1 m1 (he.mono x1 hm) hx
  | ok a st' => rw [q] at h; exact fun r' H' b x1 m1 q1 => ⟨a, r', st', x1, m1, q1, AftS.later h x1⟩
/-- the ends of a statement -/
theorem AftS.to {x : RS} {D D' : Ends} (h : AftS X W r H x D) (h1 : ∀ σ H, D.nx σ H → D'.nx σ H) (h2 : ∀ v H, D.rt v H → D'.rt v H) (h3 : ∀ σ H, D.bk σ H → D'.bk σ H) (h4 : ∀ σ H, D.ct σ H → D'.ct σ H) : AftS X W r H x D' := by
  cases x with
  | no => exact h
  | nx env st => exact fun r2 H2 σ a b c => h1 _ _ (h r2 H2 σ a b c)
  | bk env st => exact fun r2 H2 σ a b c => h3 _ _ (h r2 H2 σ a b c)
  | ct env st => exact fun r2 H2 σ a b c => h4 _ _ (h r2 H2 σ a b c)
  | rt v st => exact fun r2 H2 σ a b c => h2 _ _ (h r2 H2 σ a b c)
  | ex a env st => exact h
variable {s : Stmt} {ss : List Stmt} {e c : Expr} {m : ME} {a b : MS} {tc : MT} {ms : MA}
theorem psm_nil : PSsm X W [] sNx := PSs.weak pss_nil fun D σ H ⟨r, env, st, he, hm, h⟩ => h r H σ Xt.refl hm he
theorem psm_cons (h1 : PSm X W s a) (h2 : PSsm X W ss b) : PSsm X W (s :: ss) (sSeq a b) := PSs.weak (pss_cons h1 h2) fun D σ H ⟨r, env, st, he, hm, h⟩ => ⟨r, env, st, he, hm, by
  unfold sSeq at h
  cases q : a env st with
  | nx e st' =>
    rw [q] at h
    exact fun r' H' σ' x1 m1 e1 => ⟨r', e, st', e1, m1, AftS.later h x1⟩
  | no => rw [q] at h; exact h
  | bk e st' => rw [q] at h; exact h
  | ct e st' => rw [q] at h; exact h
  | rt v st' => rw [q] at h; exact h
  | ex a e st' => rw [q] at h; exact h⟩
theorem psm_one (h1 : PSm X W s a) : PSsm X W [s] a := pss_one h1
theorem psm_pass : PSm X W (.Pass pos) sNx := PS.weak ps_pass fun D σ H ⟨r, env, st, he, hm, h⟩ => h r H σ Xt.refl hm he
theorem psm_break : PSm X W (.Break pos) sBk := PS.weak ps_break fun D σ H ⟨r, env, st, he, hm, h⟩ => h r H σ Xt.refl hm he
theorem psm_cont : PSm X W (.Continue pos) sCt := PS.weak ps_continue fun D σ H ⟨r, env, st, he, hm, h⟩ => h r H σ Xt.refl hm he
theorem psm_doc {x : Str} {j : Nat} {pos' : Pos} : PSm X W (.Expr (.Constant (.str x) j pos) pos') sNx := PS.weak ps_doc fun D σ H ⟨r, env, st, he, hm, h⟩ => h r H σ Xt.refl hm he
theorem psm_exp (h : PEm X W e m) (hs : swapsWith e none pos.line X.env = pure false := by rfl) : PSm X W (.Expr e pos) (sExp m) := PS.weak (ps_expr h hs) fun D σ H ⟨r, env, st, he, hm, h⟩ =>
  ⟨r, env, st, he, hm, (AftS.exp (rel := rV X.K) he hm h).imp fun v H1 ⟨x, r1, st1, x1, m1, rv, h1⟩ => h1 r1 H1 σ Xt.refl m1 (he.mono x1 hm)⟩
theorem psm_ret (h : PEm X W e m) : PSm X W (.Return (some e) pos) (sRet m) := PS.weak (ps_ret h) fun D σ H ⟨r, env, st, he, hm, h⟩ =>
  ⟨r, env, st, he, hm, (AftS.exp (rel := rV X.K) he hm h).imp fun v H1 ⟨x, r1, st1, x1, m1, rv, h1⟩ => h1 r1 H1 v Xt.refl m1 rv⟩
theorem psm_retN : PSm X W (.Return none pos) sRetN := PS.weak ps_retN fun D σ H ⟨r, env, st, he, hm, h⟩ => h r H .non Xt.refl hm .non
theorem psm_if {ss' : List Stmt} (hc : PTm X W c tc) (ha : PSsm X W ss a) (hb : PSsm X W ss' b) : PSm X W (.If c ss ss' pos) (sIf tc a b) := PS.weak (ps_if hc ha hb) fun D σ H ⟨r, env, st, he, hm, h⟩ =>
  ⟨r, env, st, he, hm, (AftS.exp (rel := rB) he hm h).imp fun t H1 ⟨x, r1, st1, x1, m1, ek, h1⟩ => by
    subst ek
    cases x with
    | true => exact iteT ⟨r1, env, st1, he.mono x1 hm, m1, h1⟩
    | false => exact iteF ⟨r1, env, st1, he.mono x1 hm, m1, h1⟩⟩
theorem psm_raise {e : Expr} {C : Addr} {n : Str} (hc : X.calm = true) (tk : Takes X W) (hmk : PMk X e (fun _ H Q => Q (.ref C) none H)) (hg : X.mg n = some (.ref C)) : PSm X W (.Raise (some e) none pos) (sRaise n) :=
  PS.weak (ps_raise hc tk hmk) fun D σ H ⟨r, env, st, he, hm, h⟩ => h r H σ (.ref C) none Xt.refl hm he ⟨hg, rfl⟩
/-! targets -/
def rG (K : PySem.W.Frag) (σ : L2.St) (sl : List Nat) : Hp → List Addr → Env → L2.St → Prop := fun H r env σ' => REnv K H r env σ' ∧ ∀ vs, (∀ i ∈ sl, i ∈ vs) → L2.wipe σ' vs = L2.wipe σ vs
/-- what is known once a part without exceptions has given x -/
def Aft0 {α β : Type} (X : Cx) (rel : Hp → List Addr → α → β → Prop) (r : List Addr) (H : Hp) (x : Rs α) (Q : β → Hp → Prop) : Prop := match x with
  | .ok a st' => ∀ r' H' b, Xt r H r' H' → Mt X.K H' r' st' → rel H' r' a b → Q b H'
  | _ => False
theorem Aft0.later {α β : Type} {rel : Hp → List Addr → α → β → Prop} {x : Rs α} {Q : β → Hp → Prop} (h : Aft0 X rel r H x Q) (e : Xt r H r' H') : Aft0 X rel r' H' x Q := by
  cases x with
  | no => exact h
  | ok a st' => exact fun r2 H2 b x2 m2 q => h r2 H2 b (e.trans x2) m2 q
  | ex a st' => exact h
theorem Aft0.split {α β γ δ : Type} {rel : Hp → List Addr → α → β → Prop} {rel2 : Hp → List Addr → γ → δ → Prop} {m : M α} {k : α → M γ} {st : Hs} {Q : δ → Hp → Prop} (h : Aft0 X rel2 r H (bnd m k st) Q) :
    Aft0 X rel r H (m st) (fun b H' => ∃ a r' st', Xt r H r' H' ∧ Mt X.K H' r' st' ∧ rel H' r' a b ∧ Aft0 X rel2 r' H' (k a st') Q) := by
  unfold bnd at h
  cases q : m st with
  | no => rw [q] at h; exact h
  | ex e st' => rw [q] at h; exact h
  | ok a st' =>
    rw [q] at h
    exact fun r' H' b x1 m1 q1 => ⟨a, r', st', x1, m1, q1, Aft0.later (h : Aft0 X rel2 r H (k a st') Q) x1⟩
theorem Aft0.aft {α β : Type} {rel : Hp → List Addr → α → β → Prop} {x : Rs α} {Q : β → Hp → Prop} (h : Aft0 X rel r H x Q) : Aft X W σ rel r H x Q := by
  cases x with
  | no => exact h
  | ok a st' => exact h
  | ex a st' => exact h.elim
theorem Aft0.imp {α β : Type} {rel : Hp → List Addr → α → β → Prop} {x : Rs α} {Q Q' : β → Hp → Prop} (h : Aft0 X rel r H x Q) (i : ∀ b H, Q b H → Q' b H) : Aft0 X rel r H x Q' := by
  cases x with
  | no => exact h
  | ok a st' => exact fun r2 H2 b x2 m2 q => i _ _ (h r2 H2 b x2 m2 q)
  | ex a st' => exact h
def tGm (X : Cx) (sl : List Nat) (g : MG) : TG := fun v σ H Q => ∃ r env st x, REnv X.K H r env σ ∧ Mt X.K H r st ∧ RV X.K H r x v ∧ Aft0 X (rG X.K σ sl) r H (g x env st) Q
def tGsm (X : Cx) (sl : List Nat) (g : MGs) : TGs := fun vs σ H Q => ∃ r env st xs, REnv X.K H r env σ ∧ Mt X.K H r st ∧ RVs X.K H r xs vs ∧ Aft0 X (rG X.K σ sl) r H (g xs env st) Q
abbrev PGm (X : Cx) (sl : List Nat) (tg : Expr) (g : MG) : Prop := PG X tg (tGm X sl g)
abbrev PGsm (X : Cx) (sl : List Nat) (tgs : List Expr) (g : MGs) : Prop := PGs X tgs (tGsm X sl g)
theorem PG.weak {tg : Expr} {t t' : TG} (h : PG X tg t) (i : ∀ v σ H Q, t' v σ H Q → t v σ H Q) : PG X tg t' := ⟨fun pins s σ H v u Q I r q => h.run pins s σ H v u Q I r (i v σ H Q q)⟩
theorem PGs.weak {tg : List Expr} {t t' : TGs} (h : PGs X tg t) (i : ∀ v σ H Q, t' v σ H Q → t v σ H Q) : PGs X tg t' := ⟨fun pins s σ H v u Q I r q => h.run pins s σ H v u Q I r (i v σ H Q q)⟩
theorem wipe_set {σ : L2.St} {i : Nat} {v : Option V} {vs : List Nat} (h : i ∈ vs) : L2.wipe (σ.set i v) vs = L2.wipe σ vs := by
  have comm : ∀ (τ : L2.St) (us : List Nat), L2.wipe (τ.set i v) us = if i ∈ us then L2.wipe τ us else (L2.wipe τ us).set i v := by
    intro τ us
    induction us with
    | nil => rfl
    | cons u us ih =>
      show (L2.wipe (τ.set i v) us).set u none = _
      rw [ih]
      by_cases e : i = u
      · subst e
        by_cases q : i ∈ us
        · rw [if_pos q, if_pos (by simp)]; rfl
        · rw [if_neg q, if_pos (by simp)]
          show ((L2.wipe τ us).set i v).set i none = (L2.wipe τ us).set i none
          rw [List.set_set]
      · by_cases q : i ∈ us
        · rw [if_pos q, if_pos (by simp [q])]; rfl
        · rw [if_neg q, if_neg (by simp [e, q])]
          show ((L2.wipe τ us).set i v).set u none = ((L2.wipe τ us).set u none).set i v
          exact List.set_comm _ _ e
  rw [comm, if_pos h]
theorem pgm_name {i : Nat} {x : Str} (hN : X.N.Nodup) (hi : X.N[i]? = some x := by rfl) (hx : Loc X.env.scope x := by first | exact Or.inl rfl | exact Or.inr rfl) (hf : X.fn x = true ∨ X.env.scope.names.lookup x = some .local := by first | exact .inl rfl | exact .inr rfl | assumption) : PGm X [i] (.Name x pos) (gNm i) :=
  PG.weak (pg_name hN hi hx hf) fun v σ H Q ⟨r, env, st, x, he, hm, rv, h⟩ => h r H _ Xt.refl hm ⟨he.set rv, fun vs hv => wipe_set (hv i (by simp))⟩
theorem pgsm_nil : PGsm X [] [] gsN := PGs.weak pgs_nil fun vs σ H Q ⟨r, env, st, xs, he, hm, rs, h⟩ => by
  cases rs with
  | nil => exact ⟨rfl, h r H σ Xt.refl hm ⟨he, fun _ _ => rfl⟩⟩
  | cons _ _ => exact h.elim
theorem Aft0.get {α β : Type} {rel : Hp → List Addr → α → β → Prop} {x : Rs α} {Q : β → Hp → Prop} (h : Aft0 X rel r H x Q) : ∃ a st, x = .ok a st ∧ ∀ r' H' b, Xt r H r' H' → Mt X.K H' r' st → rel H' r' a b → Q b H' := by
  cases x with
  | no => exact h.elim
  | ex a st => exact h.elim
  | ok a st => exact ⟨a, st, rfl, h⟩
theorem Aft0.ok {α β : Type} {rel : Hp → List Addr → α → β → Prop} {a : α} {Q : β → Hp → Prop} (h : ∀ r' H' b, Xt r H r' H' → Mt X.K H' r' st → rel H' r' a b → Q b H') : Aft0 X rel r H (.ok a st) Q := h
theorem pgsm_cons {tg : Expr} {tgs : List Expr} {g : MG} {gs : MGs} {sl sl' : List Nat} (h1 : PGm X sl tg g) (h2 : PGsm X sl' tgs gs)
    (hs : (assignEach (tg :: tgs) X.env).map (·.2) = assign tg X.env :: (assignEach tgs X.env).map (·.2) := by rfl) : PGsm X (sl ++ sl') (tg :: tgs) (gsC g gs) := PGs.weak (pgs_cons h1 h2 hs) fun vs σ H Q ⟨r, env, st, xs, he, hm, rs, h⟩ => by
  cases rs with
  | nil => exact h.elim
  | @cons x v xs vs rx rs =>
    refine ⟨v, vs, rfl, r, env, st, x, he, hm, rx, (Aft0.split (rel := rG X.K σ sl) (show Aft0 X (rG X.K σ (sl ++ sl')) r H (bnd (g x env) (gs xs) st) Q from h)).imp fun σ1 H1 ⟨env1, r1, st1, x1, m1, ⟨e1, w1⟩, h1⟩ => ?_⟩
    refine ⟨r1, env1, st1, xs, e1, m1, rs.mono x1 hm, ?_⟩
    obtain ⟨a, st2, e2, h2⟩ := h1.get
    rw [e2]
    exact Aft0.ok fun r' H' b x2 m2 ⟨q1, q2⟩ => h2 r' H' b x2 m2 ⟨q1, fun vs hv => (q2 vs fun i hi => hv i (List.mem_append_right _ hi)).trans (w1 vs fun i hi => hv i (List.mem_append_left _ hi))⟩
theorem pgm_tup {tgs : List Expr} {k n : Nat} {gs : MGs} {sl : List Nat} (hc : X.calm = true) (h : PGsm X sl tgs gs)
    (hn : (assignEach tgs X.env).length = n := by rfl) (hst : (assignEach tgs X.env).findIdx? (·.1) = none := by rfl) : PGm X sl (.Tuple tgs k pos) (gTp n gs) := PG.weak (pg_tup hc h hn hst) fun v σ H Q ⟨r, env, st, x, he, hm, rv, h⟩ => by
  cases rv with
  | @tup p vs xs ht rs =>
    unfold gTp at h
    dsimp only at h
    by_cases q : xs.length = n
    · rw [if_pos q] at h
      exact ⟨p, vs, rfl, ht, by rw [← rs.length]; exact q, r, env, st, xs, he, hm, rs, h⟩
    · rw [if_neg q] at h; exact h.elim
  | _ => exact h.elim
theorem pgm_sub {o i : Expr} {mo mi : ME} (ho : PEm X (fun _ _ _ _ => False) o mo) (hi : PEm X (fun _ _ _ _ => False) i mi)
    (ha : ∀ v, assign (.Subscript o i pos) X.env v = (do
      let ov ← holding [v] (eval o X.env)
      let iv ← holding [v, ov] (eval i X.env)
      standAt pos
      holding [v, ov, iv] (setItem ov iv v)
      release [v, ov, iv] []) := by intro _; rfl) : PGm X [] (.Subscript o i pos) (gSb mo mi) := PG.weak (pg_sub ho hi set_list ha) fun v σ H Q ⟨r, env, st, x, he, hm, rv, h⟩ =>
  ⟨r, env, st, he, hm, (Aft0.split (rel := rV X.K) h).aft.imp fun ov H1 ⟨y, r1, st1, x1, m1, ry, h1⟩ => ⟨r1, env, st1, he.mono x1 hm, m1, (Aft0.split (rel := rV X.K) h1).aft.imp fun iv H2 ⟨z, r2, st2, x2, m2, rz, h2⟩ => by
    have ry2 := ry.mono x2 m1
    have rx2 := (rv.mono x1 hm).mono x2 m1
    have he2 := (he.mono x1 hm).mono x2 m1
    cases e : setI y z x st2 with
    | none => simp only [e] at h2; exact h2.elim
    | some st3 =>
      simp only [e] at h2
      cases y with
      | ref a =>
        cases z with
        | int k =>
          unfold setI at e
          dsimp only at e
          cases q : ioL st2[a]? with
          | none => rw [q] at e; cases e
          | some xs =>
            rw [q] at e
            cases q2 : ixN xs.length k with
            | none => simp only [Option.bind_some, q2] at e; cases e
            | some j =>
              simp only [Option.bind_some, q2] at e
              cases e
              cases ry2 with | ref hp =>
              cases rz
              obtain ⟨vs, e1, rs⟩ := m2.at_ _ _ _ (ioL_some q) hp
              rw [rs.length] at q2
              have W2 := Xt.write (o := .lst (vs.set j v)) m2 hp
              exact ⟨_, vs, k, j, rfl, rfl, e1, q2, h2 r2 _ σ W2 (m2.write hp ⟨_, upd_same, RVs.mono W2 m2 (rs.set rx2 j)⟩) ⟨he2.mono W2 m2, fun _ _ => rfl⟩⟩
        | _ => cases e
      | _ => cases e⟩⟩
theorem psm_asg {tg : Expr} {g : MG} {sl : List Nat} (he : PEm X W e m) (hg : PGm X sl tg g) (hs : swapsWithSole [tg] e pos.line X.env = pure false := by rfl) (hw : swappedStores [tg] e X.env = pure none := by rfl)
    (h1 : (assignEach [tg] X.env).map (·.2) = [assign tg X.env] := by rfl) : PSm X W (.Assign [tg] e pos) (sAsg m g) := PS.weak (ps_asg he hg hs hw h1) fun D σ H ⟨r, env, st, he, hm, h⟩ =>
  ⟨r, env, st, he, hm, (AftS.exp (rel := rV X.K) he hm h).imp fun v H1 ⟨x, r1, st1, x1, m1, rv, h1⟩ => ⟨r1, env, st1, x, he.mono x1 hm, m1, rv, by
    cases q : g x env st1 with
    | no => rw [q] at h1; exact h1.elim
    | ex a s2 => rw [q] at h1; exact h1.elim
    | ok env2 s2 => rw [q] at h1; exact fun r' H' σ' x2 m2 e2 => h1 r' H' σ' x2 m2 e2.1⟩⟩
theorem psm_par2 {i j : Nat} {x y : Str} {a b : Expr} {px py pt pos : Pos} {kt k2 pt2} (hc : X.calm = true) (hN : X.N.Nodup) (ha : PAm X W [a, b] ms) (hi : X.N[i]? = some x := by rfl) (hj : X.N[j]? = some y := by rfl) (hij : i ≠ j := by decide)
    (hx : X.env.scope.names.lookup x = some .local := by rfl) (hy : X.env.scope.names.lookup y = some .local := by rfl)
    (hw : swappedStores [.Tuple [.Name x px, .Name y py] kt pt] (.Tuple [a, b] k2 pt2) X.env = pure (some [x, y]) := by rfl)
    (hs : swapsWithSole [.Tuple [.Name x px, .Name y py] kt pt] (.Tuple [a, b] k2 pt2) pos.line X.env = pure false := by rfl) :
    PSm X W (.Assign [.Tuple [.Name x px, .Name y py] kt pt] (.Tuple [a, b] k2 pt2) pos) (sPar2 i j ms) := PS.weak (ps_par hc hN hi hj hij hx hy ha hw hs) fun D σ H ⟨r, env, st, he, hm, h⟩ =>
  ⟨r, env, st, he, hm, (AftS.exp (rel := rVs X.K) he hm h).imp fun vs H1 ⟨xs, r1, st1, x1, m1, rs, h1⟩ => by
    match xs, rs, h1 with
    | [x, y], .cons a (.cons b .nil), h1 => exact ⟨_, _, rfl, h1 r1 H1 _ Xt.refl m1 (((he.mono x1 hm).set a).set b)⟩
    | [], _, h1 => exact h1.elim
    | [_], _, h1 => exact h1.elim
    | _ :: _ :: _ :: _, _, h1 => exact h1.elim⟩
theorem psm_par3 {i j l : Nat} {x y z : Str} {a b c : Expr} {px py pz pt pos : Pos} {kt k2 pt2} (hc : X.calm = true) (hN : X.N.Nodup) (ha : PAm X W [a, b, c] ms) (hi : X.N[i]? = some x := by rfl) (hj : X.N[j]? = some y := by rfl) (hl : X.N[l]? = some z := by rfl) (hij : i ≠ j := by decide) (hil : i ≠ l := by decide) (hjl : j ≠ l := by decide)
    (hx : X.env.scope.names.lookup x = some .local := by rfl) (hy : X.env.scope.names.lookup y = some .local := by rfl) (hz : X.env.scope.names.lookup z = some .local := by rfl)
    (hw : swappedStores [.Tuple [.Name x px, .Name y py, .Name z pz] kt pt] (.Tuple [a, b, c] k2 pt2) X.env = pure (some [x, y, z]) := by rfl)
    (hs : swapsWithSole [.Tuple [.Name x px, .Name y py, .Name z pz] kt pt] (.Tuple [a, b, c] k2 pt2) pos.line X.env = pure false := by rfl) :
    PSm X W (.Assign [.Tuple [.Name x px, .Name y py, .Name z pz] kt pt] (.Tuple [a, b, c] k2 pt2) pos) (sPar3 i j l ms) := PS.weak (ps_par3 hc hN hi hj hl hij hil hjl hx hy hz ha hw hs) fun D σ H ⟨r, env, st, he, hm, h⟩ =>
  ⟨r, env, st, he, hm, (AftS.exp (rel := rVs X.K) he hm h).imp fun vs H1 ⟨xs, r1, st1, x1, m1, rs, h1⟩ => by
    match xs, rs, h1 with
    | [x, y, z], .cons a (.cons b (.cons c .nil)), h1 => exact ⟨_, _, _, rfl, h1 r1 H1 _ Xt.refl m1 ((((he.mono x1 hm).set a).set b).set c)⟩
    | [], _, h1 => exact h1.elim
    | [_], _, h1 => exact h1.elim
    | [_, _], _, h1 => exact h1.elim
    | _ :: _ :: _ :: _ :: _, _, h1 => exact h1.elim⟩
end
end Sm

set_option Elab.async false
set_option linter.all false
set_option maxRecDepth 100000
set_option maxHeartbeats 4000000
namespace Sm
open L2 PySem PySem.Spec
/-! ### loops and comprehensions -/
/-- a source and a walk of the library -/
def SrcR (X : Cx) (H : Hp) (r : List Addr) (s : Src) (J : It) : Prop := ∀ r' H' st', Xt r H r' H' → Mt X.K H' r' st' → (s.fin st' = true → J.stop s.n H') ∧ ∀ i x, s.item i st' = some x → J.go i H' ∧
  ∀ v H2, J.yld i H' v H2 → Xt r' H' r' H2 ∧ Mt X.K H2 r' st' ∧ RV X.K H2 r' x v
def tIm (X : Cx) (W : WX) (i : MI) : TI := fun σ H R => ∃ r env st, REnv X.K H r env σ ∧ Mt X.K H r st ∧ Aft X W σ (SrcR X) r H (i env st) R
abbrev PIm (X : Cx) (W : WX) (tg e : Expr) (i : MI) : Prop := PI X tg e (tIm X W i)
section
variable {X : Cx} {W : WX} {pos : Pos} {r r' : List Addr} {H H' : Hp} {σ : L2.St} {env : Env} {st : Hs} {tg e elt iter : Expr} {m me : ME} {ms : MA} {mi : MI} {g : MG} {sl : List Nat} {b : MS} {body : List Stmt} {tc : MT}
theorem PI.weak {tg e : Expr} {t t' : TI} (h : PI X tg e t) (i : ∀ σ H R, t' σ H R → t σ H R) : PI X tg e t' := ⟨fun pins s σ H R I q => h.run pins s σ H R I (i σ H R q)⟩
theorem Aft.any {α β : Type} {rel : Hp → List Addr → α → β → Prop} {a : α} {Q : β → Hp → Prop} (h : Aft X W σ rel r H (.ok a st) Q) (hm : Mt X.K H r st) {b : β} (q : rel H r a b) : Q b H := h r H b Xt.refl hm q
theorem src_rng {lo : Int} {n : Nat} : SrcR X H r (.rng lo n) (Itr lo n) := fun r' H' st' x1 m1 => ⟨fun _ => Nat.le_refl n, fun i x h => by
  unfold Src.item at h
  dsimp only at h
  by_cases q : i < n
  · rw [if_pos q] at h
    cases h
    refine ⟨q, fun v H2 y => ?_⟩
    obtain ⟨e1, e2⟩ := y
    subst e1 e2
    exact ⟨Xt.refl, m1, .int _⟩
  · rw [if_neg q] at h; cases h⟩
theorem src_txt {z : Str} : SrcR X H r (.txt z) (Its z) := fun r' H' st' x1 m1 => ⟨fun _ => Nat.le_refl _, fun i x h => by
  unfold Src.item at h
  dsimp only at h
  cases q : z.cps[i]? with
  | none => rw [q] at h; cases h
  | some c =>
    rw [q] at h
    cases h
    refine ⟨(Array.getElem?_eq_some_iff.mp q).1, fun v H2 y => ?_⟩
    obtain ⟨e1, c', e2, e3⟩ := y
    rw [q] at e2
    cases e2
    subst e1 e3
    exact ⟨Xt.refl, m1, .str _⟩⟩
theorem src_seq {x : IV} {v : V} {n : Nat} {p : Addr} {J : It} (hx : RV X.K H r x v) (ev : v = .ref p) (hm : Mt X.K H r st)
    (hJ : ∀ r' H' st' xs, Xt r H r' H' → Mt X.K H' r' st' → seqOf st' x = some xs → RV X.K H' r' x v → ∃ vs, RVs X.K H' r' xs vs ∧ (J.stop vs.length H') ∧ ∀ i w, vs[i]? = some w → J.go i H' ∧ ∀ u H2, J.yld i H' u H2 → H2 = H' ∧ u = w) : SrcR X H r (.seq x n) J := fun r' H' st' x1 m1 => by
  have hx' := hx.mono x1 hm
  refine ⟨fun h => ?_, fun i y h => ?_⟩
  · unfold Src.fin at h
    dsimp only at h
    cases q : seqOf st' x with
    | none => rw [q] at h; cases h
    | some xs =>
      rw [q] at h
      obtain ⟨vs, rs, h1, _⟩ := hJ r' H' st' xs x1 m1 q hx'
      have e : xs.length = n := eq_of_beq h
      rw [← rs.length, e] at h1
      exact h1
  · unfold Src.item at h
    dsimp only at h
    cases q : seqOf st' x with
    | none => rw [q] at h; cases h
    | some xs =>
      rw [q] at h
      obtain ⟨vs, rs, _, h2⟩ := hJ r' H' st' xs x1 m1 q hx'
      have h : (if xs.length = n then xs[i]? else none) = some y := h
      by_cases e : xs.length = n
      · rw [if_pos e] at h
        obtain ⟨w, e1, rw1⟩ := rs.get h
        obtain ⟨g1, g2⟩ := h2 i w e1
        refine ⟨g1, fun u H2 y => ?_⟩
        obtain ⟨e2, e3⟩ := g2 u H2 y
        subst e2 e3
        exact ⟨Xt.refl, m1, rw1⟩
      · rw [if_neg e] at h; cases h
theorem src_lst {x : IV} {v : V} {xs : List IV} {n : Nat} (hm : Mt X.K H r st) (hx : RV X.K H r x v) (h : lstOf st x = some xs) : ∃ p, v = .ref p ∧ (∃ ys, SqL X.K H p ys) ∧ SrcR X H r (.seq x n) (Itl X.K p) := by
  obtain ⟨p, vs, rfl, hq, rs⟩ := lst_at hm h hx
  refine ⟨p, rfl, ⟨vs, hq⟩, src_seq hx rfl hm fun r' H' st' xs' x1 m1 h' hx' => ?_⟩
  have h2 : lstOf st' x = some xs' := by
    cases x with
    | tup ys => cases h
    | _ => exact h'
  obtain ⟨p', vs', ep, hq', rs'⟩ := lst_at m1 h2 hx'
  cases ep
  refine ⟨vs', rs', ⟨vs', hq', Nat.le_refl _⟩, fun i w e => ⟨⟨vs', w, hq', e⟩, fun u H2 y => ?_⟩⟩
  obtain ⟨e1, e2⟩ := y
  have e3 := e2 vs' hq'
  rw [e] at e3
  exact ⟨e1, (Option.some.inj e3).symm⟩
theorem src_tup {xs : List IV} {v : V} {n : Nat} (hm : Mt X.K H r st) (hx : RV X.K H r (.tup xs) v) : ∃ p, v = .ref p ∧ (∃ ys, SqT X.K H p ys) ∧ SrcR X H r (.seq (.tup xs) n) (Itt X.K p) := by
  have hx0 := hx
  cases hx with
  | @tup p vs _ ht rs =>
    refine ⟨p, rfl, ⟨vs, ht⟩, src_seq hx0 rfl hm fun r' H' st' xs' x1 m1 h' hx' => ?_⟩
    cases h'
    cases hx' with
    | @tup _ vs' _ ht' rs' =>
      refine ⟨vs', rs', ⟨vs', ht', Nat.le_refl _⟩, fun i w e => ⟨⟨vs', w, ht', e⟩, fun u H2 y => ?_⟩⟩
      obtain ⟨e1, e2⟩ := y
      have e3 := e2 vs' ht'
      rw [e] at e3
      exact ⟨e1, (Option.some.inj e3).symm⟩
theorem pim_ls (h : PEm X W e m) : PIm X W tg e (iLs m) := PI.weak (pi_list h) fun σ H R ⟨r, env, st, he, hm, h⟩ => ⟨r, env, st, he, hm, (Aft.split (rel := rV X.K) h).imp fun v H1 ⟨x, r1, st1, x1, m1, rv, h1⟩ => by
  cases q : lstOf st1 x with
  | none => rw [q] at h1; exact h1.elim
  | some xs =>
    rw [q] at h1
    obtain ⟨p, rfl, hq, hs⟩ := src_lst (n := xs.length) m1 rv q
    exact ⟨p, rfl, hq, Aft.any h1 m1 hs⟩⟩
theorem pim_tp (h : PEm X W e m) : PIm X W tg e (iTp m) := PI.weak (pi_tup h) fun σ H R ⟨r, env, st, he, hm, h⟩ => ⟨r, env, st, he, hm, (Aft.split (rel := rV X.K) h).imp fun v H1 ⟨x, r1, st1, x1, m1, rv, h1⟩ => by
  cases x with
  | tup xs =>
    obtain ⟨p, rfl, hq, hs⟩ := src_tup (n := xs.length) m1 rv
    exact ⟨p, rfl, hq, Aft.any h1 m1 hs⟩
  | _ => exact h1.elim⟩
theorem pim_tx (h : PEm X W e m) : PIm X W tg e (iTx m) := PI.weak (pi_str h) fun σ H R ⟨r, env, st, he, hm, h⟩ => ⟨r, env, st, he, hm, (Aft.split (rel := rV X.K) h).imp fun v H1 ⟨x, r1, st1, x1, m1, rv, h1⟩ => by
  cases x with
  | str z =>
    cases rv
    exact ⟨z, rfl, Aft.any h1 m1 src_txt⟩
  | _ => exact h1.elim⟩
theorem pim_rg1 {a : Expr} {p : Pos} (ha : PAm X W [a] ms) (hg : Gl X "range") (hm : X.mg "range" = none) (hs : starEach [a] X.env = [(false, eval a X.env)] := by rfl) : PIm X W tg (.Call (.Name "range" p) [a] [] pos) (iRg1 ms) :=
  PI.weak (pi_range1 hg hm ha hs) fun σ H R ⟨r, env, st, he, hm, h⟩ => ⟨r, env, st, he, hm, (Aft.split (rel := rVs X.K) h).imp fun vs H1 ⟨xs, r1, st1, x1, m1, rs, h1⟩ => by
    revert rs h1
    split <;> intro rs h1
    · rename_i j
      obtain ⟨v, rfl, rv⟩ := rvs_one rs
      cases rv
      by_cases q : -4611686018427387904 ≤ j ∧ j < 4611686018427387904
      · rw [if_pos q] at h1
        exact ⟨j, rfl, by omega, by omega, Aft.any h1 m1 src_rng⟩
      · rw [if_neg q] at h1; exact h1.elim
    · exact h1.elim⟩
theorem pim_rg2 {a b : Expr} {p : Pos} (ha : PAm X W [a, b] ms) (hg : Gl X "range") (hm : X.mg "range" = none) (hs : starEach [a, b] X.env = [(false, eval a X.env), (false, eval b X.env)] := by rfl) (hs2 : starEach [b] X.env = [(false, eval b X.env)] := by rfl) : PIm X W tg (.Call (.Name "range" p) [a, b] [] pos) (iRg2 ms) :=
  PI.weak (pi_range2 hg hm ha hs hs2) fun σ H R ⟨r, env, st, he, hm, h⟩ => ⟨r, env, st, he, hm, (Aft.split (rel := rVs X.K) h).imp fun vs H1 ⟨xs, r1, st1, x1, m1, rs, h1⟩ => by
    revert rs h1
    split <;> intro rs h1
    · rename_i i j
      obtain ⟨v, w, rfl, rv, rw⟩ := rvs_two rs
      cases rv
      cases rw
      by_cases q : -4611686018427387904 ≤ i ∧ i < 4611686018427387904 ∧ -4611686018427387904 ≤ j ∧ j < 4611686018427387904
      · rw [if_pos q] at h1
        exact ⟨i, j, rfl, by omega, Aft.any h1 m1 src_rng⟩
      · rw [if_neg q] at h1; exact h1.elim
    · exact h1.elim⟩
theorem psm_for (hp : PassesOwn (model X.prog X.w) X.A X.env X.xe) (hc : X.calm = true) (hi : PIm X W tg iter mi) (hg : PGm X sl tg g) (hb : PSsm X W body b)
    (hs : ∀ x, foldedSetIterable iter X.env x = pure x := by intro _; rfl) : PSm X W (.For tg iter body [] pos) (sFor mi g b) := PS.weak (ps_for hp hc hi hg hb hs) fun D σ H ⟨r, env, st, he, hm, h⟩ =>
  ⟨r, env, st, he, hm, (AftS.exp (rel := SrcR X) he hm h).imp fun J H1 ⟨s, r1, st1, x1, m1, hJ, h1⟩ => by
    refine ⟨fun i k σ H => i + k = s.n ∧ ∃ r' env' st', Xt r1 H1 r' H ∧ Mt X.K H r' st' ∧ REnv X.K H r' env' σ ∧ AftS X W r' H (goFor s g b k i env' st') D, ⟨s.n, Nat.zero_add _, r1, env, st1, Xt.refl, m1, he.mono x1 hm, h1⟩, ?_⟩
    rintro i k σ H ⟨ek, r', env', st', x2, m2, e2, h2⟩
    obtain ⟨j1, j2⟩ := hJ r' H st' x2 m2
    cases k with
    | zero =>
      have ei : i = s.n := ek
      subst ei
      unfold goFor at h2
      by_cases q : s.fin st' = true
      · rw [if_pos q] at h2
        exact .inl ⟨j1 q, h2 r' H σ Xt.refl m2 e2⟩
      · rw [if_neg q] at h2; exact h2.elim
    | succ k =>
      unfold goFor at h2
      cases q : s.item i st' with
      | none => rw [q] at h2; exact h2.elim
      | some x =>
        rw [q] at h2
        dsimp only at h2
        obtain ⟨j3, j4⟩ := j2 i x q
        refine .inr ⟨j3, fun σ' H' => ∃ r3 env3 st3, Xt r1 H1 r3 H' ∧ Mt X.K H' r3 st3 ∧ REnv X.K H' r3 env3 σ' ∧ AftS X W r3 H' (goFor s g b k (i + 1) env3 st3) D, fun σ' H' hN => ⟨k, Nat.lt_succ_self k, by omega, hN⟩, fun v H' y => ?_⟩
        obtain ⟨x3, m3, rv⟩ := j4 v H' y
        refine ⟨r', env', st', x, e2.mono x3 m2, m3, rv, ?_⟩
        cases q2 : g x env' st' with
        | no => rw [q2] at h2; exact h2.elim
        | ex a s2 => rw [q2] at h2; exact h2.elim
        | ok env3 st3 =>
          rw [q2] at h2
          dsimp only at h2
          refine Aft0.ok fun r4 H4 σ4 x4 m4 e4 => ⟨r4, env3, st3, e4.1, m4, ?_⟩
          have h3 := AftS.later h2 (x3.trans x4)
          cases q3 : b env3 st3 with
          | no => rw [q3] at h3; exact h3
          | nx e5 s5 => rw [q3] at h3; exact fun r5 H5 σ5 x5 m5 re5 => ⟨r5, e5, s5, (x2.trans x3).trans (x4.trans x5), m5, re5, AftS.later h3 x5⟩
          | ct e5 s5 => rw [q3] at h3; exact fun r5 H5 σ5 x5 m5 re5 => ⟨r5, e5, s5, (x2.trans x3).trans (x4.trans x5), m5, re5, AftS.later h3 x5⟩
          | bk e5 s5 => rw [q3] at h3; exact h3
          | rt v5 s5 => rw [q3] at h3; exact h3
          | ex a5 e5 s5 => rw [q3] at h3; exact h3⟩
/-! ### comprehensions -/
abbrev W0 : WX := fun _ _ _ _ => False
theorem REnv.wipe {env : Env} {σ : L2.St} {K : PySem.W.Frag} {H : Hp} {r : List Addr} (h : REnv K H r env σ) : ∀ vs : List Nat, REnv K H r (wipeI env vs) (L2.wipe σ vs)
  | [] => h
  | v :: vs => by
    have ih := REnv.wipe h vs
    refine ⟨by unfold wipeI L2.wipe; rw [List.length_set, List.length_set]; exact ih.1, fun j x hj => ?_⟩
    unfold wipeI at hj
    by_cases q : v = j
    · subst q
      by_cases hl : v < (wipeI env vs).length
      · rw [List.getElem?_set_self hl] at hj; cases hj
      · rw [List.getElem?_eq_none (by simpa using hl)] at hj; cases hj
    · rw [List.getElem?_set_ne q] at hj
      unfold L2.wipe
      rw [List.getElem?_set_ne q]
      exact ih.2 j x hj
theorem Rs.ok_of {α β : Type} {rel : Hp → List Addr → α → β → Prop} {a : α} {Q : β → Hp → Prop} (h : ∀ r' H' b, Xt r H r' H' → Mt X.K H' r' st → rel H' r' a b → Q b H') : Aft X W σ rel r H (.ok a st) Q := h
/-- a list that stands apart comes into the small heap -/
theorem Mt.adopt {K : PySem.W.Frag} (m : Mt K H r st) {D : Addr} {vs : List V} {xs : List IV} (hD : H D = some (.lst vs)) (nD : D ∉ r) (rs : RVs K H r xs vs) : Mt K H (r ++ [D]) (st ++ [.lst xs]) := by
  have gt : ∀ {i : Nat} {p : Addr}, r[i]? = some p → (r ++ [D])[i]? = some p := fun {i p} e => by
    rw [List.getElem?_append_left (List.getElem?_eq_some_iff.mp e).1]; exact e
  refine ⟨by simp [m.len], List.nodup_append.mpr ⟨m.nd, by simp, fun a ha b hb => ?_⟩, fun i u q h1 h2 => ?_⟩
  · rw [List.mem_singleton] at hb
    subst hb
    exact fun z => nD (z ▸ ha)
  · have keepN : ∀ p, H p ≠ some (.lst vs) → p ∉ r → p ∉ r ++ [D] := fun p hp n z => by
      rw [List.mem_append, List.mem_singleton] at z
      exact z.elim n fun e => hp (by rw [e]; exact hD)
    have lift : ∀ {x : IV} {v : V}, RV K H r x v → RV K H (r ++ [D]) x v := by
      intro x v h
      exact RV.rec (motive_1 := fun x v _ => RV K H (r ++ [D]) x v) (motive_2 := fun xs vs _ => RVs K H (r ++ [D]) xs vs) .non .bl .int .str (fun h _ ih => .tup h ih) (fun h _ ih => .rl h ih) (fun h => .ref (gt h)) (fun h n h2 n2 e e2 _ ih => .obj h (keepN _ (by rw [h]; simp) n) h2 (keepN _ (by rw [h2]; simp) n2) e e2 ih) (fun h e1 e2 _ ih => .fd h e1 e2 ih) (fun e h a b => .cls e h a b) .nil (fun _ _ a b => .cons a b) h
    have lifts : ∀ {xs : List IV} {vs : List V}, RVs K H r xs vs → RVs K H (r ++ [D]) xs vs := by
      intro xs vs h
      induction xs generalizing vs with
      | nil => cases h; exact .nil
      | cons x xs ih => cases h with | cons a b => exact .cons (lift a) (ih b)
    by_cases hi : i < st.length
    · rw [List.getElem?_append_left hi] at h1
      rw [List.getElem?_append_left (by rw [m.len]; exact hi)] at h2
      have := m.at_ i u q h1 h2
      cases u with
      | lst ys =>
        obtain ⟨ws, e1, rs1⟩ := this
        exact ⟨ws, e1, lifts rs1⟩
      | dct kvs =>
        obtain ⟨dk, e1, e2, hs⟩ := this
        exact ⟨dk, e1, e2, lifts hs⟩
      | ins c ns ys =>
        obtain ⟨dx, fs, e1, e2, n2, e3, hs⟩ := this
        exact ⟨dx, fs, e1, e2, keepN _ (by rw [e2]; simp) n2, e3, lifts hs⟩
    · have e : i = st.length := by
        have := (List.getElem?_eq_some_iff.mp h1).1
        simp at this
        omega
      subst e
      simp at h1
      rw [← m.len] at h2
      simp at h2
      subst h1 h2
      exact ⟨vs, hD, lifts rs⟩
theorem Mt.outD {K : PySem.W.Frag} (m : Mt K H r st) {D : Addr} (h : H D = none) : D ∉ r := fun z => by
  have w := m.mut z
  rw [h] at w
  exact w
/-- the accumulator's address is written: all else stands -/
theorem rv_acc {K : PySem.W.Frag} {H : Hp} {D : Addr} {vs ws : List V} (hD : H D = some (.lst vs)) {x : IV} {v : V} (h : RV K H r x v) : RV K (upd H D (.lst ws)) r x v :=
  RV.rec (motive_1 := fun x v _ => RV K (upd H D (.lst ws)) r x v) (motive_2 := fun xs vs _ => RVs K (upd H D (.lst ws)) r xs vs) .non .bl .int .str
    (fun h _ ih => .tup (by
      rcases h with (h | ⟨o, h⟩) | h
      · exact .inl (.inl (by rw [upd_ne (fun z => by rw [z, hD] at h; cases h)]; exact h))
      · exact .inl (.inr ⟨o, by rw [upd_ne (fun z => by rw [z, hD] at h; cases h)]; exact h⟩)
      · exact .inr h) ih)
    (fun h _ ih => .rl (by
      rcases h with ⟨o, h⟩ | h
      · exact .inl ⟨o, by rw [upd_ne (fun z => by rw [z, hD] at h; cases h)]; exact h⟩
      · exact .inr h) ih) (fun h => .ref h)
    (fun h n h2 n2 e e2 _ ih => .obj (by rw [upd_ne (fun z => by rw [z, hD] at h; cases h)]; exact h) n (by rw [upd_ne (fun z => by rw [z, hD] at h2; cases h2)]; exact h2) n2 e e2 ih) (fun h e1 e2 _ ih => .fd (by rw [upd_ne (fun z => by rw [z, hD] at h; cases h)]; exact h) e1 e2 ih) (fun e h a b => .cls e h a b) .nil (fun _ _ a b => .cons a b) h
theorem rvs_acc {K : PySem.W.Frag} {H : Hp} {D : Addr} {vs ws : List V} (hD : H D = some (.lst vs)) : ∀ {xs : List IV} {us : List V}, RVs K H r xs us → RVs K (upd H D (.lst ws)) r xs us
  | _, _, .nil => .nil
  | _, _, .cons a b => .cons (rv_acc hD a) (rvs_acc hD b)
theorem Mt.acc {K : PySem.W.Frag} {H : Hp} (m : Mt K H r st) {D : Addr} {vs ws : List V} (hD : H D = some (.lst vs)) (nD : D ∉ r) : Mt K (upd H D (.lst ws)) r st :=
  ⟨m.len, m.nd, fun i u q h1 h2 => by
    have hq : q ≠ D := fun z => nD (z ▸ List.mem_of_getElem? h2)
    have := m.at_ i u q h1 h2
    cases u with
    | lst ys =>
      obtain ⟨us, e1, rs⟩ := this
      exact ⟨us, by rw [upd_ne hq]; exact e1, rvs_acc hD rs⟩
    | dct kvs =>
      obtain ⟨dk, e1, e2, hs⟩ := this
      exact ⟨dk, by rw [upd_ne hq]; exact e1, e2, rvs_acc hD hs⟩
    | ins c ns ys =>
      obtain ⟨dx, fs, e1, e2, n2, e3, hs⟩ := this
      exact ⟨dx, fs, by rw [upd_ne hq]; exact e1, by rw [upd_ne (fun z => by rw [z, hD] at e2; cases e2)]; exact e2, n2, e3, rvs_acc hD hs⟩⟩
theorem Xt.acc {H1 : Hp} {r1 : List Addr} (x : Xt r1 H1 r H) {D : Addr} {ws : List V} (n : H1 D = none) : Xt r1 H1 r (upd H D (.lst ws)) :=
  ⟨x.pre, fun p o h hn => by
    obtain ⟨a, b⟩ := x.fr p o h hn
    exact ⟨by rw [upd_ne (ne_of_none h n)]; exact a, b⟩⟩
theorem Xt.adopt {H1 : Hp} {r1 : List Addr} (x : Xt r1 H1 r H) {D : Addr} (n : H1 D = none) : Xt r1 H1 (r ++ [D]) H :=
  ⟨let ⟨t, e⟩ := x.pre; ⟨t ++ [D], by rw [e, List.append_assoc]⟩, fun p o h hn => by
    obtain ⟨a, b⟩ := x.fr p o h hn
    refine ⟨a, fun z => ?_⟩
    rw [List.mem_append, List.mem_singleton] at z
    exact z.elim b (ne_of_none h n)⟩
theorem wipe_wipe {σ : L2.St} {vs : List Nat} : ∀ {us : List Nat}, (∀ i ∈ us, i ∈ vs) → L2.wipe (L2.wipe σ us) vs = L2.wipe σ vs
  | [], _ => rfl
  | u :: us, h => by
    show L2.wipe ((L2.wipe σ us).set u none) vs = _
    rw [wipe_set (h u (by simp))]
    exact wipe_wipe fun i hi => h i (by simp [hi])
theorem lc_m {vs : List Nat} {Q : VK} (hv : ∀ i ∈ sl, i ∈ vs) (h : tE X W (mLc mi g tc me vs) σ H Q) : tLc (tIm X W mi) (tGm X sl g) (tT X W0 tc) (tE X W0 me) vs σ H Q := by
  obtain ⟨r, env, st, he, hm, h⟩ := h
  refine ⟨r, env, st, he, hm, (Aft.split (rel := SrcR X) h).imp fun J H1 ⟨s, r1, st1, x1, m1, hJ, h1⟩ D hD => ?_⟩
  have e1 := he.mono x1 hm
  refine ⟨fun i k H => i + k = s.n ∧ ∃ r' st' acc accV, Xt r1 H1 r' H ∧ Mt X.K H r' st' ∧ H D = some (.lst accV) ∧ D ∉ r' ∧ RVs X.K H r' acc accV ∧ Aft X W σ (rV X.K) r1 H1 (bnd (goLc s g tc me (wipeI env vs) k i acc) (fun xs st => .ok (.ref st.length) (st ++ [.lst xs])) st') Q,
    ⟨s.n, Nat.zero_add _, r1, st1, [], [], Xt.aside hD, m1.aside hD, upd_same, m1.outD hD, .nil, h1⟩, ?_⟩
  rintro i k H ⟨ek, r', st', acc, accV, x2, m2, d2, n2, rs2, h2⟩
  obtain ⟨j1, j2⟩ := hJ r' H st' x2 m2
  cases k with
  | zero =>
    have ei : i = s.n := ek
    subst ei
    unfold bnd goLc at h2
    by_cases q : s.fin st' = true
    · rw [if_pos q] at h2
      refine .inl ⟨j1 q, h2 (r' ++ [D]) H (.ref D) (x2.adopt hD) (m2.adopt d2 n2 rs2) ?_⟩
      exact .ref (by rw [← m2.len]; simp)
    · rw [if_neg q] at h2; exact h2.elim
  | succ k =>
    unfold bnd goLc at h2
    cases q : s.item i st' with
    | none => rw [q] at h2; exact h2.elim
    | some x =>
      rw [q] at h2
      dsimp only at h2
      obtain ⟨j3, j4⟩ := j2 i x q
      refine .inr ⟨j3, fun H' => ∃ r' st' acc accV, Xt r1 H1 r' H' ∧ Mt X.K H' r' st' ∧ H' D = some (.lst accV) ∧ D ∉ r' ∧ RVs X.K H' r' acc accV ∧ Aft X W σ (rV X.K) r1 H1 (bnd (goLc s g tc me (wipeI env vs) k (i + 1) acc) (fun xs st => .ok (.ref st.length) (st ++ [.lst xs])) st') Q,
        fun H' hN => ⟨k, Nat.lt_succ_self k, by omega, hN⟩, fun v H' y => ?_⟩
      obtain ⟨x3, m3, rv⟩ := j4 v H' y
      obtain ⟨d3, n3⟩ := x3.fr D _ d2 n2
      have rs3 := rs2.mono x3 m2
      refine ⟨r', wipeI env vs, st', x, ((e1.mono x2 m1).mono x3 m2).wipe vs, m3, rv, ?_⟩
      cases q2 : g x (wipeI env vs) st' with
      | no => rw [q2] at h2; exact h2.elim
      | ex a s2 => rw [q2] at h2; exact h2.elim
      | ok env3 st3 =>
        rw [q2] at h2
        dsimp only at h2
        refine Aft0.ok fun r4 H4 σ4 x4 m4 e4 => ⟨(e4.2 vs hv).trans (wipe_wipe (fun i h => h)), r4, env3, st3, e4.1, m4, ?_⟩
        obtain ⟨d4, n4⟩ := x4.fr D _ d3 n3
        have rs4 := rs3.mono x4 m3
        have x14 := (x2.trans x3).trans x4
        cases q3 : tc env3 st3 with
        | no => rw [q3] at h2; exact h2.elim
        | ex a s2 => rw [q3] at h2; exact h2.elim
        | ok t st4 =>
          rw [q3] at h2
          refine Rs.ok_of fun r5 H5 b x5 m5 eb => ?_
          have eb : t = b := eb
          subst eb
          obtain ⟨d5, n5⟩ := x5.fr D _ d4 n4
          have rs5 := rs4.mono x5 m4
          have x15 := x14.trans x5
          cases t with
          | false =>
            dsimp only at h2
            refine iteF ⟨r5, st4, acc, accV, x15, m5, d5, n5, rs5, h2⟩
          | true =>
            dsimp only at h2
            refine iteT ⟨r5, env3, st4, e4.1.mono x5 m4, m5, ?_⟩
            cases q4 : me env3 st4 with
            | no => rw [q4] at h2; exact h2.elim
            | ex a s2 => rw [q4] at h2; exact h2.elim
            | ok y st5 =>
              rw [q4] at h2
              dsimp only at h2
              by_cases q5 : acc.length < big
              · rw [if_pos q5] at h2
                refine Rs.ok_of fun r6 H6 w x6 m6 rw6 => ?_
                obtain ⟨d6, n6⟩ := x6.fr D _ d5 n5
                have rs6 := rs5.mono x6 m5
                exact ⟨accV, d6, by rw [← big_eq, ← rs6.length]; exact q5, r6, st5, acc ++ [y], accV ++ [w], (x15.trans x6).acc hD, m6.acc d6 n6, upd_same, n6, rvs_acc d6 (rs6.append (.cons rw6 .nil)), h2⟩
              · rw [if_neg q5] at h2; exact h2.elim
abbrev PTsm (X : Cx) (W : WX) (cs : List Expr) (m : MT) : Prop := PTs X cs (tT X W m)
theorem PTs.weak {cs : List Expr} {t t' : TT} (h : PTs X cs t) (i : ∀ σ H Q, t' σ H Q → t σ H Q) : PTs X cs t' := ⟨fun pins s σ H Q I q => h.run pins s σ H Q I (i σ H Q q)⟩
theorem ptsm_nil : PTsm X W [] mtYes := PTs.weak pts_nil fun σ H Q ⟨r, env, st, he, hm, h⟩ => h r H true Xt.refl hm rfl
theorem ptsm_one {c : Expr} (h : PTm X W c tc) : PTsm X W [c] tc := pts_one h
section
variable {ifs : List Expr} {scope : Scope} {own : List (Str × Nat)}
theorem pem_lc (hc : X.calm = true) (hN : X.N.Nodup) (ok : BlkOk X.N X.env.scope scope own) (hi : PIm X W tg iter mi)
    (hg : ∀ (s : Shared) (H : Hp) (C : Addr) (cl : List (Str × Addr)) (fp : List Addr), PGm (X.blk s H scope (compEnvC scope cl C X.env) fp) sl tg g) (ht : ∀ (s : Shared) (H : Hp) (C : Addr) (cl : List (Str × Addr)) (fp : List Addr), PTsm (X.blk s H scope (compEnvC scope cl C X.env) fp) W0 ifs tc)
    (he : ∀ (s : Shared) (H : Hp) (C : Addr) (cl : List (Str × Addr)) (fp : List Addr), PEm (X.blk s H scope (compEnvC scope cl C X.env) fp) W0 elt me) (hv : ∀ i ∈ sl, i ∈ own.map (·.2) := by decide) (hs : ∀ x, foldedSetIterable iter X.env x = pure x := by intro _; rfl) :
    PEm X W (.ListComp elt [⟨tg, iter, ifs, 0⟩] scope pos) (mLc mi g tc me (own.map (·.2))) :=
  PE.weak (pe_lc (tt := tT X W0 tc) (te := tE X W0 me) (g := tGm X sl g) hc hN hi ok hg ht he hs) fun σ H Q h => lc_m hv h
theorem psm_setLc {i : Nat} {y : Str} {py spos : Pos} (hc : X.calm = true) (hN : X.N.Nodup) (ok : BlkOk X.N X.env.scope scope own) (hi : PIm X W tg iter mi)
    (hg : ∀ (s : Shared) (H : Hp) (C : Addr) (cl : List (Str × Addr)) (fp : List Addr), PGm (X.blk s H scope (compEnvC scope cl C X.env) fp) sl tg g) (ht : ∀ (s : Shared) (H : Hp) (C : Addr) (cl : List (Str × Addr)) (fp : List Addr), PTsm (X.blk s H scope (compEnvC scope cl C X.env) fp) W0 ifs tc)
    (he : ∀ (s : Shared) (H : Hp) (C : Addr) (cl : List (Str × Addr)) (fp : List Addr), PEm (X.blk s H scope (compEnvC scope cl C X.env) fp) W0 elt me) (hv : ∀ i ∈ sl, i ∈ own.map (·.2) := by decide) (hs : ∀ x, foldedSetIterable iter X.env x = pure x := by intro _; rfl)
    (hy : X.N[i]? = some y := by rfl) (hyl : X.env.scope.names.lookup y = some .local := by rfl) (hsw : swapsWith (.ListComp elt [⟨tg, iter, ifs, 0⟩] scope pos) (some (.Name y py)) spos.line X.env = pure true := by exact sw_true rfl rfl rfl rfl) :
    PSm X W (.Assign [.Name y py] (.ListComp elt [⟨tg, iter, ifs, 0⟩] scope pos) spos) (sAsg (mLc mi g tc me (own.map (·.2))) (gNm i)) :=
  PS.weak (ps_setLc (tt := tT X W0 tc) (te := tE X W0 me) (g := tGm X sl g) hc hN hy hyl hsw hi ok hg ht he hs) fun D σ H ⟨r, env, st, he, hm, h⟩ => lc_m hv ⟨r, env, st, he, hm, (AftS.exp (rel := rV X.K) he hm h).imp fun v H1 ⟨x, r1, st1, x1, m1, rv, h1⟩ =>
    h1 r1 H1 _ Xt.refl m1 ((he.mono x1 hm).set rv)⟩
end
/-! ### methods of lists -/
def rMt (K : PySem.W.Frag) (f : IV → On) : V → List V → Hp → VK → Prop := fun x' vs H Q => ∃ r x xs st z st', f x xs st = some (z, st') ∧ Mt K H r st ∧ RV K H r x x' ∧ RVs K H r xs vs ∧ ∀ r' H' v, Xt r H r' H' → Mt K H' r' st' → RV K H' r' z v → Q v H'
theorem xm_append : MtR X "list.append" (rMt X.K tAppend) := by
  intro pins s σ H x' vs v us Q I rx rv ⟨r, x, xs, st, z, st', e, m, hx, rs, h⟩
  revert hx rs e
  unfold tAppend
  split <;> intro e hx rs
  · rename_i a y
    cases hx with | ref hp =>
    obtain ⟨w, rfl, rw1⟩ := rvs_one rs
    cases q : ioL st[a]? with
    | none => rw [q] at e; cases e
    | some ys =>
      rw [q] at e
      simp only [Option.bind_some] at e
      by_cases q2 : ys.length < big
      · rw [if_pos q2] at e
        cases e
        obtain ⟨ws, e1, rs1⟩ := m.at_ _ _ _ (ioL_some q) hp
        have W2 := Xt.write (o := .lst (ws ++ [w])) m hp
        exact mt_append pins s σ H _ _ v us Q I rx rv ⟨_, ws, w, rfl, rfl, e1, by rw [← big_eq, ← rs1.length]; exact q2, h r _ _ W2 (m.write hp ⟨_, upd_same, RVs.mono W2 m (rs1.append (.cons rw1 .nil))⟩) .non⟩
      · rw [if_neg q2] at e; cases e
  · cases e
theorem xm_pop : MtR X "list.pop" (rMt X.K tPop) := by
  intro pins s σ H x' vs v us Q I rx rv ⟨r, x, xs, st, z, st', e, m, hx, rs, h⟩
  revert hx rs e
  unfold tPop
  split <;> intro e hx rs
  · rename_i a i
    cases hx with | ref hp =>
    obtain ⟨w, rfl, rw1⟩ := rvs_one rs
    cases rw1
    cases q : ioL st[a]? with
    | none => rw [q] at e; cases e
    | some ys =>
      rw [q] at e
      simp only [Option.bind_some] at e
      by_cases q2 : -9223372036854775808 ≤ i ∧ i < 9223372036854775808
      · rw [if_pos q2] at e
        cases q3 : seqIndex? i ys.length with
        | none => rw [q3] at e; cases e
        | some k =>
          rw [q3] at e
          simp only [Option.bind_some] at e
          cases q4 : ys[k]? with
          | none => rw [q4] at e; cases e
          | some y =>
            rw [q4] at e
            cases e
            obtain ⟨ws, e1, rs1⟩ := m.at_ _ _ _ (ioL_some q) hp
            rw [rs1.length] at q3
            obtain ⟨w2, e2, rw2⟩ := rs1.get q4
            have W2 := Xt.write (o := .lst (ws.eraseIdx k)) m hp
            exact mt_popAt pins s σ H _ _ v us Q I rx rv ⟨_, ws, i, k, w2, rfl, rfl, e1, q2.1, q2.2, q3, e2, h r _ _ W2 (m.write hp ⟨_, upd_same, RVs.mono W2 m (rs1.erase k)⟩) (rw2.mono W2 m)⟩
      · rw [if_neg q2] at e; cases e
  · cases e
theorem pem_mth {o : Expr} {es : List Expr} {mo : ME} {name : Str} {apos : Pos} {id : String} {f : IV → On} (slot : Slot "list" name id) (hty : typeOf (.builtin id) = pure (.type "method_descriptor")) (hmt : MtR X id (rMt X.K f)) (ho : PEm X W o mo) (ha : PAm X W (e :: es) ms)
    (hbase : attributeBase o name X.env (eval o X.env) = eval o X.env := by rfl)
    (hfew : ((backTo pos (starEach (e :: es) X.env)).all (fun x => !x.1) && (backToKw pos (keywordEach [] X.env)).all (fun x => x.1.isSome)
      && decide ((e :: es).length + ([] : List Keyword).length + (if ([] : List Keyword).isEmpty then 0 else 1) < 30)) = true := by rfl)
    (hline : (apos.endLine == pos.line) = true := by rfl) (hs : starEach (e :: es) X.env = (false, eval e X.env) :: starEach es X.env := by rfl) (hplain : (backTo pos (starEach es X.env)).any (·.1) = false := by rfl) :
    PEm X W (.Call (.Attribute o name apos) (e :: es) [] pos) (mMth f mo ms) :=
  PE.weak (pe_bm F.plainAttrs_list slot hty hmt ho ha hbase hfew hline hs hplain) fun σ H Q ⟨r, env, st, he, hm, h⟩ => ⟨r, env, st, he, hm, (Aft.split (rel := rV X.K) h).imp fun v H1 ⟨x, r1, st1, x1, m1, rv, h1⟩ => by
    cases x with
    | ref a =>
      unfold bnd at h1
      cases q : ioL st1[a]? with
      | none => simp only [q] at h1; exact h1.elim
      | some xs =>
        simp only [q] at h1
        cases rv with
        | @ref _ p hp =>
        obtain ⟨vs, e1, rs⟩ := m1.at_ _ _ _ (ioL_some q) hp
        refine ⟨by
          first
            | exact .inl ⟨rfl, vs, .inl (.inl e1)⟩
            | exact ⟨rfl, vs, .inl (.inl e1)⟩, r1, env, st1, he.mono x1 hm, m1, (Aft.split (rel := rVs X.K) (show Aft X W σ (rV X.K) r1 H1 (bnd (ms env) (fun xs st => lf (f (.ref a) xs st)) st1) Q from h1)).imp fun us H2 ⟨ys, r2, st2, x2, m2, rs2, h2⟩ => ?_⟩
        cases q2 : f (.ref a) ys st2 with
        | none => rw [q2] at h2; exact h2.elim
        | some p2 =>
          rw [q2] at h2
          exact ⟨r2, .ref a, ys, st2, p2.1, p2.2, q2, m2, RV.mono x2 m1 (.ref hp), rs2, h2⟩
    | _ => exact h1.elim⟩
theorem pem_append {o : Expr} {mo : ME} {apos : Pos} (ho : PEm X W o mo) (ha : PAm X W [e] ms)
    (hbase : attributeBase o "append" X.env (eval o X.env) = eval o X.env := by rfl) (hs : starEach [e] X.env = (false, eval e X.env) :: starEach [] X.env := by rfl) (hline : (apos.endLine == pos.line) = true := by rfl)
    (hfew : ((backTo pos (starEach [e] X.env)).all (fun x => !x.1) && (backToKw pos (keywordEach [] X.env)).all (fun x => x.1.isSome)
      && decide ([e].length + ([] : List Keyword).length + (if ([] : List Keyword).isEmpty then 0 else 1) < 30)) = true := by rfl) : PEm X W (.Call (.Attribute o "append" apos) [e] [] pos) (mMth tAppend mo ms) :=
  pem_mth PySem.F.slot_list_append PySem.F.type_list_append xm_append ho ha hbase hfew hline hs rfl
theorem pem_pop {o : Expr} {mo : ME} {apos : Pos} (ho : PEm X W o mo) (ha : PAm X W [e] ms)
    (hbase : attributeBase o "pop" X.env (eval o X.env) = eval o X.env := by rfl) (hs : starEach [e] X.env = (false, eval e X.env) :: starEach [] X.env := by rfl) (hline : (apos.endLine == pos.line) = true := by rfl)
    (hfew : ((backTo pos (starEach [e] X.env)).all (fun x => !x.1) && (backToKw pos (keywordEach [] X.env)).all (fun x => x.1.isSome)
      && decide ([e].length + ([] : List Keyword).length + (if ([] : List Keyword).isEmpty then 0 else 1) < 30)) = true := by rfl) : PEm X W (.Call (.Attribute o "pop" apos) [e] [] pos) (mMth tPop mo ms) :=
  pem_mth PySem.F.slot_list_pop PySem.F.type_list_pop xm_pop ho ha hbase hfew hline hs rfl
end
end Sm

set_option Elab.async false
set_option linter.all false
set_option maxRecDepth 100000
set_option maxHeartbeats 4000000
namespace Sm
open L2 PySem PySem.Spec PyProof.Rows
/-! ### defs, calls, the law's end -/
/-- a def's promise, by its state-passing function -/
def spM (K : PySem.W.Frag) (mg : Str → Option Value) (f : List IV → M IV) (vs : List V) (H : Hp) (Q : VK) (E : XK) : Prop := ∃ r xs st, RVs K H r xs vs ∧ Mt K H r st ∧ match f xs st with
  | .ok x st' => ∀ r' H' v, Xt r H r' H' → Mt K H' r' st' → RV K H' r' x v → Q v H'
  | .ex e st' => ∀ r' H' cls d, Xt r H r' H' → Mt K H' r' st' → ExR K mg H' r' e cls d → E cls d H'
  | .no => False
def FnG (P : Program) (w : World) (K : PySem.W.Frag) (mg : Str → Option Value) (base : Heap) (k : Nat) (f : Addr) (fd : FuncData) (ps : List Str) (mf : List IV → M IV) : Prop :=
  ∀ (A : Around) (fr : List PySem.Env) (s : Shared) (H : Hp) (al : Args) (us : List Value) (vs : List V) (Q : VK) (E : XK), Room k A → A.guards = some [] → Env0 P w K mg base A fr s H → BindsTo s fd al (ps.zip us) → Vals vs us → vs.length = ps.length → spM K mg mf vs H Q E →
    codeAny (model P w) A (.call (.ref f) al) (CR (L2.CX P w) fr P w H s Q E) s
/-- a def's function, by its body -/
def endR : RS → Rs IV
  | .nx _ st => .ok .non st
  | .rt v st => .ok v st
  | .ex e _ st => .ex e st
  | _ => .no
def mDef (n : Nat) (b : MS) : List IV → M IV := fun xs st => endR (b (xs.map some ++ List.replicate (n - xs.length) none) st)
theorem renv_start {K : PySem.W.Frag} {H : Hp} {r : List Addr} {N : List Str} {xs : List IV} {vs : List V} (h : RVs K H r xs vs) : REnv K H r (xs.map some ++ List.replicate (N.length - xs.length) none) (L2.start N vs) := by
  unfold L2.start
  refine ⟨by simp [h.length], fun i x e => ?_⟩
  by_cases hi : i < xs.length
  · rw [List.getElem?_append_left (by simpa using hi), List.getElem?_map] at e
    cases q : xs[i]? with
    | none => rw [q] at e; cases e
    | some y =>
      rw [q] at e
      cases e
      obtain ⟨v, h1, h2⟩ := h.get q
      refine ⟨v, ?_, h2⟩
      rw [List.getElem?_append_left (by rw [List.length_map, ← h.length]; exact hi), List.getElem?_map, h1]
      rfl
  · rw [List.getElem?_append_right (by simpa using hi), List.getElem?_replicate] at e
    split at e <;> cases e
/-- what a body's reading may lean on -/
structure Bd (k : Nat) (X : Cx) (W : WX) : Prop where
  room : Room k X.A
  gd : X.A.guards = some []
  tk : L2.Takes X W
  po : PassesOwn (model X.prog X.w) X.A X.env X.xe
abbrev bX (P : Program) (w : World) (K : PySem.W.Frag) (mg : Str → Option Value) (base : Heap) (N : List Str) (x : Str) (t : Stmt) (f : Addr) (cd : Value) (A : Around) (fr : List PySem.Env) (s : Shared) (H : Hp) (E : XK) : Cx := cxOf (L2.CX P w) P w K mg base N x (defScope t) f cd A fr s H E
section
variable {P : Program} {w : World} {K : PySem.W.Frag} {mg : Str → Option Value} {base : Heap} {k : Nat}
theorem fng_of {y x : Str} {t : Stmt} {f : Addr} {fd : FuncData} {N ps : List Str} {b : MS} (F : Fun K y x t f fd) (S : FnScope N ps (defScope t))
    (hb : ∀ (cd : Value) (A : Around) (fr : List PySem.Env) (s : Shared) (H : Hp) (E : XK), Bd k (bX P w K mg base N x t f cd A fr s H E) (fun cls d _ H' => E cls d H') → PSsm (bX P w K mg base N x t f cd A fr s H E) (fun cls d _ H' => E cls d H') (defBody t) b) :
    FnG P w K mg base (k + 1) f fd ps (mDef N.length b) := by
  obtain ⟨oc, od, kV, doc, pm, an, cd, ct, osl, rfl, lk, hcd⟩ := F.ex
  intro A fr s H al us vs Q E room gd e0 bnd rv hl hsp
  have hK : K.In s.heap := e0.mod.kin.keeps fun c o e => (e0.bs c o e).1
  have hL : s.heap.NoLimit := e0.mod.nolimit.keeps fun c o e => (e0.bs c o e).1
  refine codeAny_call_function room.depth (hK _ _ lk) rfl S.co S.gen rfl (PySem.W.codeRec_of hK hcd) (bnd _ _ _ _ (wpAny_newFunctionEnv_cells S.kind (fun y hy => ?_) fun env he s1 x1 => ?_))
  · rcases S.par y.1 (List.of_mem_zip hy).1 with z | z
    · exact .inl z
    · exact .inr ⟨z, PySem.W.cellsFrom_some _ _ _ (.inl z)⟩
  subst he
  refine ⟨hL.keeps x1.toInCall.keep, codeAny_func ?_⟩
  obtain ⟨r, xs, st, rs, m, h⟩ := hsp
  have tk : L2.Takes (bX P w K mg base N x t f cd A fr s H E) (fun cls d _ H' => E cls d H') := L2.takes_of rfl rfl rfl (E := E) (E₁ := fun e' s'' => L2.CX P w fr H s E e' s'') rfl
  have bd : Bd k (bX P w K mg base N x t f cd A fr s H E) (fun cls d _ H' => E cls d H') := ⟨room.deeper _, gd, tk, L2.passes_of (K := fun e s'' => L2.CX P w fr H s E e s'') (E₁ := fun e' s'' => L2.CX P w fr H s E e' s'') rfl⟩
  have J : Inv (bX P w K mg base N x t f cd A fr s H E) [] (L2.start N vs) H s1 := inv_start S room.hd e0 hl rv x1
  have aft : AftS (bX P w K mg base N x t f cd A fr s H E) (fun cls d _ H' => E cls d H') r H (b (xs.map some ++ List.replicate (N.length - xs.length) none) st) { nx := fun _ H' => Q .non H', rt := Q } := by
    unfold mDef at h
    cases q : b (xs.map some ++ List.replicate (N.length - xs.length) none) st with
    | no => rw [q] at h; exact h
    | nx e2 s2 => rw [q] at h; exact fun r' H' σ' x2 m2 _ => h r' H' .non x2 m2 .non
    | rt v s2 => rw [q] at h; exact h
    | bk e2 s2 => rw [q] at h; exact h.elim
    | ct e2 s2 => rw [q] at h; exact h.elim
    | ex e e2 s2 => rw [q] at h; exact fun r' H' σ' cls d x2 m2 _ z => h r' H' cls d x2 m2 z
  refine wpAny_mono ((hb cd A fr s H E bd).run [] s1 (L2.start N vs) H _ J ⟨r, _, st, renv_start rs, m, aft⟩) (fun fl s' z => ?_) fun _ _ z => z
  cases fl with
  | next => obtain ⟨_, H', J', q⟩ := z; exact ⟨.non, H', J'.os, J'.bare, J'.base, J'.hok, rfl, q⟩
  | ret u => obtain ⟨v, _, H', J', q1, q⟩ := z; exact ⟨v, H', J'.os, J'.bare, J'.base, J'.hok, q1, q⟩
  | brk => obtain ⟨_, _, _, q⟩ := z; exact q.elim
  | cont => obtain ⟨_, _, _, q⟩ := z; exact q.elim
/-- a name of the module that is such a def -/
def Cal (P : Program) (w : World) (K : PySem.W.Frag) (mg : Str → Option Value) (base : Heap) (k : Nat) (x : Str) (n : Nat) (mf : List IV → M IV) : Prop :=
  ∃ f fd ps, FnG P w K mg base k f fd ps mf ∧ ps.length = n ∧ mg x = some (.ref f) ∧ PySem.W.keepIn K (.ref f) = true ∧ Binds K fd ps []
/-- a def of the text as it stands -/
def DefAt (K : PySem.W.Frag) (mg : Str → Option Value) (x : Str) (t : Stmt) (ps : List Str) : Prop := ∃ f fd, Fun K x x t f fd ∧ mg x = some (.ref f) ∧ Binds K fd ps []
theorem cal_of {x : Str} {t : Stmt} {N ps : List Str} {b : MS} (D : DefAt K mg x t ps) (S : FnScope N ps (defScope t))
    (hb : ∀ (f : Addr) (cd : Value) (A : Around) (fr : List PySem.Env) (s : Shared) (H : Hp) (E : XK), Bd k (bX P w K mg base N x t f cd A fr s H E) (fun cls d _ H' => E cls d H') → PSsm (bX P w K mg base N x t f cd A fr s H E) (fun cls d _ H' => E cls d H') (defBody t) b) :
    Cal P w K mg base (k + 1) x ps.length (mDef N.length b) := by
  obtain ⟨f, fd, F, hm, hB⟩ := D
  exact ⟨f, fd, ps, fng_of F S (hb f), rfl, hm, F.kp, hB⟩
theorem FnG.mono {j : Nat} {f : Addr} {fd : FuncData} {ps : List Str} {mf : List IV → M IV} (F : FnG P w K mg base j f fd ps mf) (h : j ≤ k) : FnG P w K mg base k f fd ps mf := fun A fr s H al us vs Q E hr => F A fr s H al us vs Q E (hr.mono h)
theorem Cal.mono {j : Nat} {x : Str} {n : Nat} {mf : List IV → M IV} (C : Cal P w K mg base j x n mf) (h : j ≤ k) : Cal P w K mg base k x n mf := by
  obtain ⟨f, fd, ps, F, q⟩ := C
  exact ⟨f, fd, ps, F.mono h, q⟩
end
/-! values without references -/
mutual
def clI : IV → Bool
  | .tup xs => clIs xs
  | .rl xs => clIs xs
  | .ref _ => false
  | .obj _ _ xs => clIs xs
  | .fd _ xs => clIs xs
  | _ => true
def clIs : List IV → Bool
  | [] => true
  | x :: xs => clI x && clIs xs
end
/-! no instance in it -/
mutual
def plI : IV → Bool
  | .tup xs => plIs xs
  | .rl xs => plIs xs
  | .obj _ _ _ => false
  | .fd _ xs => plIs xs
  | _ => true
def plIs : List IV → Bool
  | [] => true
  | x :: xs => plI x && plIs xs
end
def noIns (st : Hs) : Bool := st.all fun o => match o with
  | .ins _ _ _ => false
  | _ => true
/-! a value without references, at other places -/
mutual
theorem RV.clW {K : PySem.W.Frag} {H : Hp} {r r' : List Addr} (ok : ∀ p u, H p = some u → (∃ C dx fs, u = .ins C dx fs) ∨ (∃ q, u = .own q) → p ∉ r → p ∉ r') : ∀ {x : IV} {v : V}, RV K H r x v → clI x = true → RV K H r' x v
  | _, _, .non, _ => .non
  | _, _, .bl b, _ => .bl b
  | _, _, .int i, _ => .int i
  | _, _, .str z, _ => .str z
  | _, _, .tup h hs, e => .tup h (RVs.clW ok hs e)
  | _, _, .rl h hs, e => .rl h (RVs.clW ok hs e)
  | _, _, .ref _, e => by cases e
  | _, _, .obj h n h2 n2 e1 e2 hs, e => .obj h (ok _ _ h (.inl ⟨_, _, _, rfl⟩) n) h2 (ok _ _ h2 (.inr ⟨_, rfl⟩) n2) e1 e2 (RVs.clW ok hs e)
  | _, _, .fd h e1 e2 hs, e => .fd h e1 e2 (RVs.clW ok hs e)
  | _, _, .cls e h a b, _ => .cls e h a b
theorem RVs.clW {K : PySem.W.Frag} {H : Hp} {r r' : List Addr} (ok : ∀ p u, H p = some u → (∃ C dx fs, u = .ins C dx fs) ∨ (∃ q, u = .own q) → p ∉ r → p ∉ r') : ∀ {xs : List IV} {vs : List V}, RVs K H r xs vs → clIs xs = true → RVs K H r' xs vs
  | _, _, .nil, _ => .nil
  | _, _, .cons h hs, e => by
    have e := Bool.and_eq_true_iff.mp (show (clI _ && clIs _) = true from e)
    exact .cons (RV.clW ok h e.1) (RVs.clW ok hs e.2)
end
mutual
theorem RV.clP {K : PySem.W.Frag} {H : Hp} {r r' : List Addr} : ∀ {x : IV} {v : V}, RV K H r x v → clI x = true → plI x = true → RV K H r' x v
  | _, _, .non, _, _ => .non
  | _, _, .bl b, _, _ => .bl b
  | _, _, .int i, _, _ => .int i
  | _, _, .str z, _, _ => .str z
  | _, _, .tup h hs, e, g => .tup h (RVs.clP hs e g)
  | _, _, .rl h hs, e, g => .rl h (RVs.clP hs e g)
  | _, _, .ref _, e, _ => by cases e
  | _, _, .obj _ _ _ _ _ _ _, _, g => by cases g
  | _, _, .fd h e1 e2 hs, e, g => .fd h e1 e2 (RVs.clP hs e g)
  | _, _, .cls e h a b, _, _ => .cls e h a b
theorem RVs.clP {K : PySem.W.Frag} {H : Hp} {r r' : List Addr} : ∀ {xs : List IV} {vs : List V}, RVs K H r xs vs → clIs xs = true → plIs xs = true → RVs K H r' xs vs
  | _, _, .nil, _, _ => .nil
  | _, _, .cons h hs, e, g => by
    have e := Bool.and_eq_true_iff.mp (show (clI _ && clIs _) = true from e)
    have g := Bool.and_eq_true_iff.mp (show (plI _ && plIs _) = true from g)
    exact .cons (RV.clP h e.1 g.1) (RVs.clP hs e.2 g.2)
end
theorem RVs.down {K : PySem.W.Frag} {H : Hp} {r : List Addr} {xs : List IV} {vs : List V} (h : RVs K H r xs vs) (c : clIs xs = true) : RVs K H [] xs vs := RVs.clW (fun _ _ _ _ _ => by simp) h c
theorem not_in {K : PySem.W.Frag} {H : Hp} {r : List Addr} {st : Hs} (m : Mt K H r st) (n : noIns st = true) {p : Addr} {u : HO} (h : H p = some u) (e : (∃ C dx fs, u = .ins C dx fs) ∨ (∃ q, u = .own q)) : p ∉ r := fun z => by
  obtain ⟨i, hi, ei⟩ := List.getElem_of_mem z
  have hi' : i < st.length := by rw [← m.len]; exact hi
  have q := m.at_ i st[i] p (by simp [hi']) (by simp [hi, ei])
  have nn := List.all_eq_true.mp n _ (List.getElem_mem hi')
  cases k : st[i] with
  | lst xs =>
    rw [k] at q
    obtain ⟨vs, e1, _⟩ := q
    rw [h] at e1
    rcases e with ⟨_, _, _, rfl⟩ | ⟨_, rfl⟩ <;> cases e1
  | dct kvs =>
    rw [k] at q
    obtain ⟨dk, e1, _⟩ := q
    rw [h] at e1
    rcases e with ⟨_, _, _, rfl⟩ | ⟨_, rfl⟩ <;> cases e1
  | ins c ns xs => rw [k] at nn; cases nn
theorem RVs.up {K : PySem.W.Frag} {H : Hp} {r r' : List Addr} {st : Hs} (m : Mt K H r st) {xs : List IV} {vs : List V} (h : RVs K H r' xs vs) (c : clIs xs = true) (n : (noIns st || plIs xs) = true) : RVs K H r xs vs := by
  rcases Bool.or_eq_true_iff.mp n with n | n
  · exact RVs.clW (fun p u hp hu _ => not_in m n hp hu) h c
  · exact RVs.clP h c n
theorem RV.up {K : PySem.W.Frag} {H : Hp} {r r' : List Addr} {st : Hs} (m : Mt K H r st) {x : IV} {v : V} (h : RV K H r' x v) (c : clI x = true) (n : (noIns st || plI x) = true) : RV K H r x v := by
  rcases Bool.or_eq_true_iff.mp n with n | n
  · exact RV.clW (fun p u hp hu _ => not_in m n hp hu) h c
  · exact RV.clP h c n
/-- a run with arguments without references is one by itself -/
def runC (f : List IV → M IV) : List IV → M IV := fun xs st => if clIs xs = true then
    match f xs [] with
    | .ok v st' => if (clI v && (noIns st || plI v)) = true then .ok v st else f xs st
    | .ex e st' => if (clIs (e.fs.map (·.2)) && (noIns st || plIs (e.fs.map (·.2)))) = true then .ex e st else f xs st
    | .no => f xs st
  else f xs st
/-- a call, all arguments by place -/
def mCall (f : List IV → M IV) (es : MA) : ME := fun env => bnd (es env) (runC f)
def clEnv (env : Env) : Bool := env.all fun o => match o with
  | some x => clI x
  | none => true
/-- a statement behind which nothing of the small heap is left -/
def sGc (b : MS) : MS := fun env st => match b env st with
  | .nx e st' => if (clEnv e && st.isEmpty) = true then .nx e [] else .nx e st'
  | x => x
section
variable {X : Cx} {W : WX} {pos p : Pos} {x : Str} {n : Nat} {mf : List IV → M IV} {k : Nat} {e : Expr} {es : List Expr} {ms : MA}
theorem pass_tk (tk : L2.Takes X W) (σ : L2.St) : PassesAt (L2.CX X.prog X.w) X σ (WE W σ) := passAt tk σ
theorem pass_0 (σ : L2.St) : PassesAt (L2.CX X.prog X.w) X σ (WE W0 σ) := fun pins H s e s' I h => passL pins σ H s e s' I h
theorem run_g {f : Addr} {fd : FuncData} {ps : List Str} {pins : List (Addr × Obj)} {σ : L2.St} {H : Hp} {s : Shared} {Q : VK} {us : List Value} {vs : List V} (F : FnG X.prog X.w X.K X.mg X.base k f fd ps mf) (hr : Room k X.A) (hgd : X.A.guards = some []) (hb : Binds X.K fd ps []) (hx : PassesAt (L2.CX X.prog X.w) X σ (WE W σ))
    (I : Inv X pins σ H s) (rv : Vals vs us) (hl : vs.length = ps.length) (h : spM X.K X.mg mf vs H Q (WE W σ)) : wpAny (model X.prog X.w) X.A (call (.ref f) us) (EP X pins σ Q) X.xe s := by
  have bt := hb s us I.kIn (by rw [List.append_nil, ← rv.length]; exact hl)
  rw [List.append_nil] at bt
  refine wpAny_call (codeAny_mono (F X.A X.stack s H ⟨us, []⟩ us vs Q (WE W σ) hr hgd I.env0 bt rv hl h) fun res s' z => ?_)
  match res, z with
  | .error u, z => exact hx pins H s u s' I z
  | .ok (.ret u), z => exact I.after z
  | .ok .next, z => exact z.elim
  | .ok .brk, z => exact z.elim
  | .ok .cont, z => exact z.elim
theorem xt_cl {K : PySem.W.Frag} {H H' : Hp} {r r' : List Addr} (x : Xt [] H r' H') : Xt r H r H' := ⟨⟨[], by simp⟩, fun p o h n => ⟨(x.fr p o h (by simp)).1, n⟩⟩
theorem mt_cl {K : PySem.W.Frag} {H H' : Hp} {r r' : List Addr} {st : Hs} (m : Mt K H r st) (x : Xt [] H r' H') : Mt K H' r st := ⟨m.len, m.nd, fun i o p h1 h2 => by
  have q := m.at_ i o p h1 h2
  refine q.mono (xt_cl (K := K) x) m ?_
  cases o with
  | lst xs => obtain ⟨vs, e, _⟩ := q; rw [e]; exact (x.fr p _ e (by simp)).1
  | dct kvs => obtain ⟨dk, e, _⟩ := q; rw [e]; exact (x.fr p _ e (by simp)).1
  | ins c ns xs => obtain ⟨dx, fs, e, _⟩ := q; rw [e]; exact (x.fr p _ e (by simp)).1⟩
theorem mt_nil {K : PySem.W.Frag} {H : Hp} : Mt K H [] [] := ⟨rfl, List.nodup_nil, fun i o q e => by simp at e⟩
theorem aft_sp {σ : L2.St} {H : Hp} {Q : VK} {r : List Addr} {xs : List IV} {vs : List V} {st : Hs} (rs : RVs X.K H r xs vs) (m : Mt X.K H r st) (h : Aft X W σ (rV X.K) r H (runC mf xs st) Q) : spM X.K X.mg mf vs H Q (WE W σ) := by
  have plain : Aft X W σ (rV X.K) r H (mf xs st) Q → spM X.K X.mg mf vs H Q (WE W σ) := fun h => by
    refine ⟨r, xs, st, rs, m, ?_⟩
    cases q : mf xs st with
    | no => rw [q] at h; exact h
    | ok y s2 => rw [q] at h; exact h
    | ex a s2 => rw [q] at h; exact h
  unfold runC at h
  split at h
  · rename_i c
    split at h
    · rename_i y s2 q
      split at h
      · rename_i c2
        refine ⟨[], xs, [], rs.down c, mt_nil, ?_⟩
        rw [q]
        have c2 := Bool.and_eq_true_iff.mp c2
        exact fun r' H' v x1 _ rv => h r H' v (xt_cl (K := X.K) x1) (mt_cl m x1) (rv.up (mt_cl m x1) c2.1 c2.2)
      · exact plain h
    · rename_i a s2 q
      split at h
      · rename_i c2
        refine ⟨[], xs, [], rs.down c, mt_nil, ?_⟩
        rw [q]
        have c2 := Bool.and_eq_true_iff.mp c2
        refine fun r' H' cls d x1 _ hx => h r H' cls d (xt_cl (K := X.K) x1) (mt_cl m x1) ⟨hx.1, ?_⟩
        have h2 := hx.2
        cases e : a.fs with
        | nil => rw [e] at h2; exact h2
        | cons y ys =>
          rw [e] at h2 c2
          obtain ⟨dd, ws, g1, g2, g3, g4⟩ := h2
          exact ⟨dd, ws, g1, g2, g3, g4.up (mt_cl m x1) c2.1 c2.2⟩
      · exact plain h
    · exact plain h
  · exact plain h
theorem pem_call (C : Cal X.prog X.w X.K X.mg X.base k x n mf) (hr : Room k X.A) (hgd : X.A.guards = some []) (hx : ∀ σ, PassesAt (L2.CX X.prog X.w) X σ (WE W σ)) (ha : PAm X W (e :: es) ms) (hg : Gl X x) (hn : (e :: es).length = n := by rfl) (hdb : (x == ("__debug__" : Str)) = false := by decide)
    (he : starEach (e :: es) X.env = (false, eval e X.env) :: starEach es X.env := by rfl) (hpl : (backTo pos (starEach es X.env)).any (·.1) = false := by rfl) (hlen : ∀ env st xs st', ms env st = .ok xs st' → xs.length = (e :: es).length) : PEm X W (.Call (.Name x p) (e :: es) [] pos) (mCall mf ms) := by
  obtain ⟨f, fd, ps, F, hps, hm, hk, hb⟩ := C
  refine ⟨fun pins s σ H Q I h => ?_⟩
  obtain ⟨r, env, st, re, m, h⟩ := h
  refine wpAny_Call_Name_kw (ld_glob I hg hm ?_ hdb)
  have h2 : Aft X W σ (rVs X.K) r H (ms env st) (fun vs H' => vs.length = ps.length ∧ spM X.K X.mg mf vs H' Q (WE W σ)) := by
    have h3 := Aft.split (rel := rVs X.K) h
    cases q : ms env st with
    | no => rw [q] at h3; exact h3
    | ex a s2 => rw [q] at h3; exact h3
    | ok xs s2 =>
      rw [q] at h3
      refine fun r' H' vs x1 m1 rs => ⟨by rw [← rs.length, hlen _ _ _ _ q, hn, hps], ?_⟩
      have h4 : Aft X W σ (rV X.K) r H (runC mf xs s2) Q := by
        have h5 : Aft X W σ (rV X.K) r H (bnd (ms env) (runC mf) st) Q := h
        unfold bnd at h5
        rw [q] at h5
        exact h5
      exact aft_sp rs m1 (Aft.later h4 x1)
  exact PySem.W.callWith_K (h₀ := X.base) I.ok.mod.kin hk (thn (ha.run pos pins s σ H _ I ⟨r, env, st, re, m, h2⟩) fun us s1 ⟨vs, H1, I1, rv, hl, q⟩ => ⟨I1.kIn, run_g F hr hgd hb (hx σ) I1 rv hl q⟩) he hpl
theorem renv_cl {K : PySem.W.Frag} {H : Hp} {r : List Addr} {env : Env} {σ : L2.St} (h : REnv K H r env σ) (c : clEnv env = true) : REnv K H [] env σ := ⟨h.1, fun i x e => by
  obtain ⟨v, h1, h2⟩ := h.2 i x e
  exact ⟨v, h1, RV.clW (fun _ _ _ _ _ => by simp) h2 (List.all_eq_true.mp c _ (List.mem_of_getElem? e))⟩⟩
theorem psm_gc {s : Stmt} {b : MS} (h : PSm X W s b) : PSm X W s (sGc b) := PS.weak h fun D σ H ⟨r, env, st, re, m, h⟩ => ⟨r, env, st, re, m, by
  unfold sGc at h
  cases q : b env st with
  | no => rw [q] at h; exact h
  | rt v s2 => rw [q] at h; exact h
  | bk e s2 => rw [q] at h; exact h
  | ct e s2 => rw [q] at h; exact h
  | ex a e s2 => rw [q] at h; exact h
  | nx e s2 =>
    rw [q] at h
    dsimp only at h
    split at h
    · rename_i c
      obtain ⟨c1, c2⟩ := Bool.and_eq_true_iff.mp c
      have est : st = [] := List.isEmpty_iff.mp c2
      subst est
      have er : r = [] := List.length_eq_zero_iff.mp m.len
      subst er
      exact fun r' H' σ' x1 m1 re1 => h [] H' σ' (xt_cl (K := X.K) x1) mt_nil (renv_cl re1 c1)
    · exact h⟩
/-! the number of arguments -/
def LenA (n : Nat) (ms : MA) : Prop := ∀ env st xs st', ms env st = .ok xs st' → xs.length = n
theorem len_nil : LenA 0 maN := fun env st xs st' h => by cases h; rfl
theorem len_cons {m : ME} {n : Nat} (h : LenA n ms) : LenA (n + 1) (maC m ms) := fun env st xs st' e => by
  unfold maC bnd at e
  cases q : m env st with
  | no => rw [q] at e; cases e
  | ex a s => rw [q] at e; cases e
  | ok y s =>
    rw [q] at e
    dsimp only at e
    cases q2 : ms env s with
    | no => rw [q2] at e; cases e
    | ex a s => rw [q2] at e; cases e
    | ok ys s2 =>
      rw [q2] at e
      cases e
      rw [List.length_cons, h _ _ _ _ q2]
end
/-! ### the law's end -/
theorem law_g {P : Program} {w : World} {K : PySem.W.Frag} {mg mb : Str → Option Value} {k : Nat} {fa a : Addr} {fd : FuncData} {x : Str} {mf : List IV → M IV} {s₁ : Shared} {vs : List Value} {ns : List Int}
    (KX : K.In s₁.heap) (nsG : s₁.heap.Ns mainGlobals mg) (nsB : s₁.heap.Ns builtinsNs mb) (mbB : ∀ x : Str, x ≠ "__name__" → mb x = bootBuiltins x) (lim : s₁.heap.NoLimit) (gen : s₁.gens = #[])
    (la : s₁.heap.get? a = some { cls := .type "list", data := .seq vs.toArray }) (ia : IntsAre vs ns) (sz : ns.length ≤ sizeLine) (room : Room k callerA)
    (F : ∀ base : Heap, K.In base → base.Ns mainGlobals mg → FnG P w K mg base k fa fd [x] mf) (bind : ∀ (s : Shared) (u : Value), BindsTo s fd ⟨[u], []⟩ [(x, u)])
    (good : ∃ st, mf [.rl (ns.map .int)] [] = .ok (.bl true) st) :
    codeAny (model P w) callerA (.call (.ref fa) ⟨[.ref a], []⟩) (fun r s' => r = .ok (.ret (.bool true)) ∧ OldK s₁.heap s'.heap ∧ s'.os = s₁.os ∧ AllBare s'.gens) s₁ := by
  have rv := vals_ints ia
  have rvs : ∀ (H : Hp) (ns : List Int), RVs K H [] (ns.map IV.int) (ns.map V.int) := fun H ns => by
    induction ns with
    | nil => exact .nil
    | cons n ns ih => exact .cons (.int n) ih
  obtain ⟨stE, good⟩ := good
  have main : ∀ H : Hp, Only H → RolA K H a (ns.map V.int) → HOk P w H s₁.heap → (∀ c, H c ≠ none → c = a) → (H a ≠ none → K.lookup a = none) →
      codeAny (model P w) callerA (.call (.ref fa) ⟨[.ref a], []⟩) (fun r s' => r = .ok (.ret (.bool true)) ∧ OldK s₁.heap s'.heap ∧ s'.os = s₁.os ∧ AllBare s'.gens) s₁ := by
    intro H hO hS hok hA hK
    have out : ∀ {c : Addr} {o : Obj} {es : Array DictEntry} {ep : Nat}, s₁.heap.get? c = some o → o.data = .dict es ep → H c = none := fun {c o es ep} e d => by
      cases q : H c with
      | none => rfl
      | some u =>
        have ec : c = a := hA c (by rw [q]; simp)
        rw [ec, la] at e
        cases e
        cases d
    have ns' : ∀ {c : Addr} {m : Str → Option Value}, s₁.heap.Ns c m → (hidT s₁.heap H).Ns c m := fun {c m} ⟨o, es, ep, e, d, z⟩ => ⟨o, es, ep, hidT_get e (out e d), d, z⟩
    have K' : K.In (hidT s₁.heap H) := fun c o e => hidT_get (KX c o e) (by
      cases q : H c with
      | none => rfl
      | some u =>
        have ec : c = a := hA c (by rw [q]; simp)
        rw [ec] at e q
        rw [hK (by rw [q]; simp)] at e
        cases e)
    have M0 : Mod K mg (hidT s₁.heap H) := ⟨K', ns' nsG, ⟨mb, ns' nsB, mbB⟩, let ⟨mc, z1, z2⟩ := lim; ⟨mc, ns' z1, z2⟩⟩
    have E0' : Env0 P w K mg (hidT s₁.heap H) callerA [] s₁ H := ⟨rfl, M0, fun c o e => of_hidT e, Nat.le_of_eq (hidT_size _ _), trivial, fun c hc => absurd (show c ∈ ([] : List Addr) from hc) (by simp), hok, .of_eq gen⟩
    have sp0 : spM K mg mf [.ref a] H (fun v _ => v = .bl true) (fun _ _ _ => False) := by
      refine ⟨[], [.rl (ns.map .int)], [], .cons (.rl hS (rvs H ns)) .nil, ⟨rfl, List.nodup_nil, fun i o q e => by simp at e⟩, ?_⟩
      rw [good]
      exact fun r' H' v _ _ z => by cases z; rfl
    refine codeAny_mono (F _ K' (ns' nsG) callerA [] s₁ H ⟨[.ref a], []⟩ [.ref a] [.ref a] _ _ room rfl E0' (bind s₁ (.ref a)) (.cons rfl .nil) rfl sp0) fun res s' z => ?_
    match res, z with
    | .error e, z =>
      obtain ⟨_, _, _, _, _, _, _, _, _, _, _, _, z⟩ := z
      exact z.elim
    | .ok .next, z => exact z.elim
    | .ok .brk, z => exact z.elim
    | .ok .cont, z => exact z.elim
    | .ok (.ret u), ⟨v, H', os, bare, un, hok', z1, z2⟩ =>
      have z2 : v = .bl true := z2
      subst z2
      cases z1
      refine ⟨rfl, OldK.of_keep fun c o e => ?_, os, bare⟩
      cases q : H c with
      | none => exact un.keep c o e q (fun z => absurd (show c ∈ ([] : List Addr) from z) (by simp)) (by simp)
      | some u =>
        rcases hO c with z | ⟨ob, xs, z⟩
        · rw [q] at z; cases z
        · obtain ⟨e1, _⟩ := hok c _ z
          obtain ⟨e2, _⟩ := hok' c _ (un.frzs c ob _ z)
          rw [e] at e1
          cases e1
          exact e2
  cases hk : K.lookup a with
  | some o =>
    have e := KX a o hk
    rw [la] at e
    cases e
    exact main (fun _ => none) (fun _ => .inl rfl) (.inr ⟨_, vs.toArray, _, hk, rfl, rfl, rfl, by rw [List.size_toArray, ia.length]; exact sz, by simpa using rv⟩) (fun c u z => by cases (show (none : Option HO) = some u from z)) (fun c z => absurd rfl z) fun z => absurd rfl z
  | none =>
    refine main (fun c => if c = a then some (.frz { cls := .type "list", data := .seq vs.toArray } (.lst (ns.map V.int))) else none) (fun c => ?_) (.inl ⟨{ cls := .type "list", data := .seq vs.toArray }, if_pos rfl⟩) (fun c u z => ?_) (fun c z => ?_) fun _ => hk
    · by_cases q : c = a
      · exact .inr ⟨_, _, if_pos q⟩
      · exact .inl (if_neg q)
    · by_cases q : c = a
      · cases (if_pos q).symm.trans z
        subst q
        exact ⟨la, by rw [List.length_map]; exact sz, vs, _, rv, la⟩
      · cases (if_neg q).symm.trans z
    · by_cases q : c = a
      · exact q
      · exact absurd (if_neg q) z
/-- the law, over a head by facts -/
theorem walk_g {l : PySem.W.OpenLaw} {n k : Nat} {q : Program} {loose : List Str} {XP : (Str → Option Value) → Heap → Prop} {YP : World → Heap → Prop} {d : DefRec} {x : Str} {mf : List IV → M IV}
    (hn : l.most = some n) (hn2 : n ≤ sizeLine) (hdf : d.params.defaults = []) (room : Room k callerA)
    (F : ∀ (w : World) (mg : Str → Option Value) (fa : Addr) (h : Heap), YP w h → h.Ns mainGlobals mg → mg d.name = some (.ref fa) →
      ∃ (K : PySem.W.Frag) (fd : FuncData), K.In h ∧ (∀ (s : Shared) (u : Value), BindsTo s fd ⟨[u], []⟩ [(x, u)]) ∧ ∀ base : Heap, K.In base → base.Ns mainGlobals mg → FnG l.prog w K mg base k fa fd [x] mf)
    (good : ∀ ns : List Int, ns.length ≤ n → ∃ st, mf [.rl (ns.map .int)] [] = .ok (.bl true) st) : PySem.W.WalkO q loose XP YP l.row.toRowW d [] (fun f vs => PySem.call f vs) := by
  refine Att.attach_call hn hdf fun w s₀ s₁ mg mb fa o pm cd doc a vs ns G Y ho hd hcd hmg hobj hints hlen hg => ?_
  obtain ⟨K, fd, KX, hb, hF⟩ := F w mg fa _ Y G.T.g hmg
  exact law_g KX G.T.g G.T.b G.T.builtins G.T.nolimit hg hobj hints (Nat.le_trans hlen hn2) room hF hb (good ns hlen)
end Sm

set_option Elab.async false
set_option linter.all false
set_option maxRecDepth 100000
set_option maxHeartbeats 4000000
namespace Sm
open L2 PySem PySem.Spec
open PySem.SeqAt PySem.MeetsSeq
open AutoSeq1 (wpAny_loadPart')
/-! ### a dict is no text -/
theorem dict_declines (l : Addr) (es : Array DictEntry) (n : Nat) (dd : Option Addr) (sl : Array (Option Value)) (b : Str) (u : Tok) :
    Meets (Builtin.«dict.__eq__» ⟨[.ref l, .str b u], []⟩) (fun _ R s => s.heap.get? l = some { cls := .type "dict", dict := dd, data := .dict es n, slots := sl } ∧ R (.ok (.ret .notImplemented)) s) :=
  .of_wp fun prog w A R s h => by
    obtain ⟨hp, g, d, tk, os⟩ := s
    obtain ⟨hl, h⟩ := h
    have f1 := F.sub_str_dict
    wp_walk using wpAny_loadPart' hl, wpAny_load hl
    exact ⟨_, rfl, h⟩
theorem str_declines (b : Str) (u : Tok) (l : Addr) (c : Value) (es : Array DictEntry) (n : Nat) (dd : Option Addr) (sl : Array (Option Value)) :
    Meets (Builtin.«str.__eq__» ⟨[.str b u, .ref l], []⟩) (fun _ R s => s.heap.get? l = some { cls := c, dict := dd, data := .dict es n, slots := sl } ∧ R (.ok (.ret .notImplemented)) s) :=
  .of_wp fun prog w A R s h => by
    obtain ⟨hp, g, d, tk, os⟩ := s
    obtain ⟨hl, h⟩ := h
    wp_walk using wpAny_loadPart' hl, wpAny_load hl
    exact ⟨_, rfl, h⟩
theorem rc_dict_str {A : Around} {s : Shared} {l : Addr} {o : Obj} {es : Array DictEntry} {n : Nat} (b : Str) (u : Tok) (ho : s.heap.get? l = some o) (hx : o.ExactDict) (hd : o.data = .dict es n) (hu : A.units < cLine) : RcAt A s (.ref l) (.str b u) false := fun prog w E Q h => by
  obtain ⟨cls, dd, data, sl⟩ := o
  obtain ⟨h1, h2, h3⟩ := hx
  dsimp only at h1 h2 h3 hd
  subst h1 h2 h3 hd
  exact rc_eq_decline_or (k := false) ⟨_, ho, rfl⟩ (typeIs_str s b u) (by decide) F.sub_str_dict F.slot_dict_eq F.slot_str_eq_refl
    (fun _ q => call_meets F.slot_dict_eq ⟨_, ho, rfl⟩ F.entry_dict_eq (F.args_dict_eq_2 _ _) (dict_declines l es n none #[] b u) ⟨ho, q⟩)
    (fun _ q => call_meets F.slot_str_eq_refl (typeIs_str s b u) F.entry_str_eq (F.args_str_eq_2 _ _) (str_declines b u l (.type "dict") es n none #[]) ⟨ho, q⟩)
    (fun _ q => wpAny_of_eq (rfl : isSame (.ref l) (.str b u) = pure false) q) (.inr hu) h
/-- a comparison in a pattern -/
def eqP (st : Hs) (x c : IV) : Option Bool := match x, c with
  | .ref a, .str z => match st[a]? with
    | some (.dct _) => some false
    | _ => eqI st 40 (.ref a) (.str z)
  | x, c => eqI st 40 x c
theorem eqP_at {X : Cx} {pins : List (Addr × Obj)} {σ : L2.St} {H : Hp} {s : Shared} {r : List Addr} {st : Hs} (I : Inv X pins σ H s) (m : Mt X.K H r st) (hu : X.A.units + 64 < cLine) {x c : IV} {b : Bool} {v w : V} {u1 u2 : Value} (h : eqP st x c = some b) (rx : RV X.K H r x v) (rc : RV X.K H r c w) (q1 : RelV v u1) (q2 : RelV w u2) : RcAt X.A s u1 u2 b := by
  have def_ : eqI st 40 x c = some b → RcAt X.A s u1 u2 b := fun h => (eqI_at I m 40 X.A (by omega) x c b v w u1 u2 h rx rc q1 q2).rc
  cases x with
  | ref a =>
    cases c with
    | str z =>
      unfold eqP at h
      dsimp only at h
      split at h
      · rename_i kvs k
        cases h
        cases rc
        obtain ⟨t, rfl⟩ := q2
        cases rx with
        | @ref _ p hp =>
          cases q1
          obtain ⟨dk, e, _⟩ := m.at_ _ _ _ k hp
          obtain ⟨_, _, vs, _, o, es, ep, h1, h2, h3⟩ := (show ObjOk X.prog X.w H s.heap p (.dK dk) from I.hok p _ e)
          exact rc_dict_str z t h1 h2 h3.1 (by omega)
      · exact def_ h
    | _ => exact def_ h
  | _ => exact def_ h
end Sm

set_option Elab.async false
set_option linter.all false
set_option maxRecDepth 100000
set_option maxHeartbeats 4000000
namespace Sm
open L2 PySem PySem.Spec
/-! ### match, repr, raise, try -/
/-- what a pattern gives: none where this layer does not tell, else a miss or the slots' values -/
abbrev MP := IV → Hs → Option (Option (List (Nat × IV)))
abbrev MPs := List IV → Hs → Option (Option (List (Nat × IV)))
def pCap (i : Nat) : MP := fun x _ => some (some [(i, x)])
def pWild : MP := fun _ _ => some (some [])
def pVal (c : IV) : MP := fun x st => (eqP st x c).map fun b => if b then some [] else none
def psN : MPs := fun _ _ => some (some [])
def psC (p : MP) (ps : MPs) : MPs := fun xs st => match xs with
  | [] => none
  | x :: xs => match p x st with
    | none => none
    | some none => some none
    | some (some a) => match ps xs st with
      | none => none
      | some none => some none
      | some (some b) => some (some (a ++ b))
def pSeq (n : Nat) (ps : MPs) : MP := fun x st => match x with
  | .tup xs => if xs.length = n then ps xs st else some none
  | .int _ | .bl _ | .str _ | .non => some none
  | _ => none
def bindI : List (Nat × IV) → Env → Env
  | [], env => env
  | (i, x) :: r, env => bindI r (env.set i (some x))
def cN : IV → MS := fun _ => sNx
def cC (p : MP) (b : MS) (r : IV → MS) : IV → MS := fun x env st => match p x st with
  | none => .no
  | some none => r x env st
  | some (some bs) => b (bindI bs env) st
def sMatch (e : ME) (cs : IV → MS) : MS := sE e cs
section
variable {X : Cx} {W : WX} {pos : Pos}
/-- the slots' names and values -/
inductive BRs (X : Cx) (H : Hp) (r : List Addr) : List (Str × Value) → List (Nat × IV) → Prop where
  | nil : BRs X H r [] []
  | cons {n : Str} {u : Value} {i : Nat} {x : IV} {v : V} {bs : List (Str × Value)} {ms : List (Nat × IV)} : X.N[i]? = some n → Loc X.env.scope n → (X.fn n = true ∨ X.env.scope.names.lookup n = some .local) → RV X.K H r x v → RelV v u → BRs X H r bs ms → BRs X H r ((n, u) :: bs) ((i, x) :: ms)
theorem BRs.append {H : Hp} {r : List Addr} : ∀ {a b : List (Str × Value)} {c d : List (Nat × IV)}, BRs X H r a c → BRs X H r b d → BRs X H r (a ++ b) (c ++ d)
  | _, _, _, _, .nil, h => h
  | _, _, _, _, .cons a b c d e f, h => .cons a b c d e (BRs.append f h)
def BR (X : Cx) (H : Hp) (r : List Addr) : Option (List (Str × Value)) → Option (List (Nat × IV)) → Prop
  | none, none => True
  | some a, some b => BRs X H r a b
  | _, _ => False
def PPm (X : Cx) (p : Pattern) (mp : MP) : Prop := ∀ (pins : List (Addr × Obj)) (s : Shared) (σ : L2.St) (H : Hp) (v : V) (u : Value) (r : List Addr) (x : IV) (st : Hs) (o : Option (List (Nat × IV))) (Q : Option (List (Str × Value)) → Shared → Prop),
  Inv X pins σ H s → Mt X.K H r st → RV X.K H r x v → RelV v u → mp x st = some o → (∀ s' z, Inv X pins σ H s' → BR X H r z o → Q z s') → wpAny (model X.prog X.w) X.A (matchPattern p X.env u) Q X.xe s
def PPsm (X : Cx) (ps : List Pattern) (mps : MPs) : Prop := ∀ (pins : List (Addr × Obj)) (s : Shared) (σ : L2.St) (H : Hp) (vs : List V) (us : List Value) (r : List Addr) (xs : List IV) (st : Hs) (o : Option (List (Nat × IV))) (Q : Option (List (Str × Value)) → Shared → Prop),
  Inv X pins σ H s → Mt X.K H r st → RVs X.K H r xs vs → Vals vs us → mps xs st = some o → (∀ s' z, Inv X pins σ H s' → BR X H r z o → Q z s') → wpAny (model X.prog X.w) X.A (matchEach ps X.env us) Q X.xe s
theorem ppm_cap {i : Nat} {n : Str} (hi : X.N[i]? = some n := by rfl) (hx : Loc X.env.scope n := by first | exact Or.inl rfl | exact Or.inr rfl) (hf : X.fn n = true ∨ X.env.scope.names.lookup n = some .local := by first | exact .inl rfl | exact .inr rfl) : PPm X (.MatchAs none (some n) pos) (pCap i) := fun pins s σ H v u r x st o Q I m rv ru e q => by
  cases e
  exact wpAny_matchPattern_Capture (q s _ I (.cons hi hx hf rv ru .nil))
theorem ppm_wild : PPm X (.MatchAs none none pos) pWild := fun pins s σ H v u r x st o Q I m rv ru e q => by
  cases e
  exact wpAny_matchPattern_Capture (q s _ I .nil)
theorem ppm_val {e : Expr} {c : IV} {cv : V} (hu : X.A.units + 64 < cLine) (he : PE X e (tC cv)) (hc : ∀ H r, RV X.K H r c cv) : PPm X (.MatchValue e pos) (pVal c) := fun pins s σ H v u r x st o Q I m rv ru e1 q => by
  unfold pVal at e1
  cases k : eqP st x c with
  | none => rw [k] at e1; cases e1
  | some b =>
    rw [k] at e1
    cases e1
    refine wpAny_matchPattern_Value (thn (he.run pins s σ H (fun w H1 => w = cv ∧ H = H1) I ⟨rfl, rfl⟩) fun w s1 ⟨v1, H1, I1, r1, e2, e3⟩ => ?_)
    subst e2
    rw [← e3] at I1
    refine eqP_at I1 m hu k rv (hc H r) ru r1 _ _ _ _ ?_
    refine wpAny_truthy_bool ?_
    cases b
    · exact q s1 _ I1 True.intro
    · exact q s1 _ I1 .nil
theorem ppm_str {z : Str} {j : Nat} {p2 : Pos} (hu : X.A.units + 64 < cLine) : PPm X (.MatchValue (.Constant (.str z) j p2) pos) (pVal (.str z)) := ppm_val hu pe_str fun _ _ => .str z
theorem ppm_int {i : Int} {j : Nat} {p2 : Pos} (hu : X.A.units + 64 < cLine) : PPm X (.MatchValue (.Constant (.int i) j p2) pos) (pVal (.int i)) := ppm_val hu pe_int fun _ _ => .int i
theorem ppsm_nil : PPsm X [] psN := fun pins s σ H vs us r xs st o Q I m rv ru e q => by
  cases e
  exact wpAny_matchEach_nil (q s _ I .nil)
theorem ppsm_cons {p : Pattern} {ps : List Pattern} {mp : MP} {mps : MPs} (h1 : PPm X p mp) (h2 : PPsm X ps mps) (hp : p.isStar = false := by rfl) : PPsm X (p :: ps) (psC mp mps) := fun pins s σ H vs us r xs st o Q I m rs ru e q => by
  cases rs with
  | nil => cases e
  | @cons x v xs vs rx rs =>
    cases ru with
    | cons ru1 rus =>
      unfold psC at e
      dsimp only at e
      cases k : mp x st with
      | none => rw [k] at e; cases e
      | some oa =>
        rw [k] at e
        refine wpAny_matchEach_cons (h1 pins s σ H v _ r x st oa _ I m rx ru1 k fun s1 z I1 b1 => ?_) hp
        cases oa with
        | none =>
          cases e
          cases z with
          | none => exact q s1 _ I1 True.intro
          | some a => exact b1.elim
        | some a =>
          cases z with
          | none => exact b1.elim
          | some za =>
            dsimp only at e
            cases k2 : mps xs st with
            | none => rw [k2] at e; cases e
            | some ob =>
              rw [k2] at e
              refine h2 pins s1 σ H vs _ r xs st ob _ I1 m rs rus k2 fun s2 z2 I2 b2 => ?_
              cases ob with
              | none =>
                cases e
                cases z2 with
                | none => exact q s2 _ I2 True.intro
                | some _ => exact b2.elim
              | some b =>
                cases e
                cases z2 with
                | none => exact b2.elim
                | some zb => exact q s2 _ I2 (BRs.append b1 b2)
theorem ppm_seq {ps : List Pattern} {mps : MPs} {n : Nat} (hc : X.calm = true) (h : PPsm X ps mps) (hn : ps.length = n := by rfl) (hstar : ps.findIdx? (·.isStar) = none := by rfl)
    (hwild : (ps.all fun p => p.isWildcard || (p.isStar && p.names.isEmpty)) = false := by rfl) : PPm X (.MatchSequence ps pos) (pSeq n mps) := fun pins s σ H v u r x st o Q I m rv ru e q => by
  cases rv with
  | @tup p vs xs ht rs =>
    cases ru
    obtain ⟨its, va, pl, hz⟩ := I.tuple ht
    have hlen : its.toArray.size = xs.length := by rw [List.size_toArray, rs.length, va.length]
    have hfit : (its.toArray.size : Int) < 2 ^ 63 := by
      rw [List.size_toArray, ← va.length]
      have := line63
      omega
    unfold pSeq at e
    dsimp only at e
    by_cases k : xs.length = n
    · rw [if_pos k] at e
      refine PyProof.Rows.matchSeq_tuple_hit pl hfit (by rw [hlen, k, hn]) ?_ hstar hwild
      have I1 : Inv X pins σ H { s with toks := s.toks + 1 + 1 } := (I.tok _).tok _
      rw [show ps.length = its.toArray.size by rw [hlen, k, hn]]
      refine wpAny_unpackItems_tuple (s := { s with toks := s.toks + 1 + 1 }) (I.ok.hd hc) pl fun h' hx => ?_
      exact h pins _ σ H vs _ r xs st o Q (I1.kept (t' := s.toks + 1 + 1) fun b ob eo => hx b ob (Nat.ne_of_lt (Heap.lt_size eo)) eo) m rs (by simpa using va) e q
    · rw [if_neg k] at e
      cases e
      exact PyProof.Rows.matchSeq_tuple_miss pl hfit (by rw [hlen, hn]; exact k) (q _ _ ((I.tok _).tok _) True.intro) hstar hwild
  | int i =>
    cases e
    obtain ⟨t, rfl⟩ := ru
    exact wpAny_matchPattern_Sequence (wpAny_collectionFlag (typeIs_int s i t) flag_seq_int (q s _ I True.intro)) hstar hwild
  | bl b =>
    cases e
    cases ru
    exact wpAny_matchPattern_Sequence (wpAny_collectionFlag (typeIs_bool s b) flag_seq_bool (q s _ I True.intro)) hstar hwild
  | str z =>
    cases e
    obtain ⟨t, rfl⟩ := ru
    exact wpAny_matchPattern_Sequence (wpAny_collectionFlag (typeIs_str s z t) flag_seq_str (q s _ I True.intro)) hstar hwild
  | non =>
    cases e
    cases ru
    exact wpAny_matchPattern_Sequence (wpAny_collectionFlag (typeIs_none s) flag_seq_None (q s _ I True.intro)) hstar hwild
  | rl _ _ => cases e
  | ref _ => cases e
  | obj _ _ _ _ _ _ _ => cases e
  | fd _ _ _ _ => cases e
  | cls _ _ _ _ => cases e
/-- cases, one behind another -/
def PCm (X : Cx) (W : WX) (cs : List MatchCase) (mc : IV → MS) : Prop := ∀ (first : Bool) (pins : List (Addr × Obj)) (s : Shared) (σ : L2.St) (H : Hp) (v : V) (u : Value) (r : List Addr) (x : IV) (env : Env) (st : Hs) (D : Ends),
  Inv X pins σ H s → Mt X.K H r st → REnv X.K H r env σ → RV X.K H r x v → RelV v u → AftS X W r H (mc x env st) D → wpAny (model X.prog X.w) X.A (matchCases cs X.env u first) (SP X pins D) X.xe s
theorem pcm_nil : PCm X W [] cN := fun first pins s σ H v u r x env st D I m re rv ru h => wpAny_matchCases_nil ⟨σ, H, I, h r H σ Xt.refl m re⟩
theorem bind_all (hN : X.N.Nodup) {Q : Unit → Shared → Prop} {pins : List (Addr × Obj)} {H : Hp} {r : List Addr} : ∀ {bs : List (Str × Value)} {ms : List (Nat × IV)} {s : Shared} {σ : L2.St} {env : Env}, BRs X H r bs ms → Inv X pins σ H s → REnv X.K H r env σ →
    (∀ s' σ', Inv X pins σ' H s' → REnv X.K H r (bindI ms env) σ' → Q () s') → wpAny (model X.prog X.w) X.A (assignInOrder (bs.map fun (n, _) => bindName X.env n) (bs.map (·.2))) Q X.xe s
  | _, _, s, σ, env, .nil, I, re, q => PyProof.Rows.assignInOrder_nil (q s σ I re)
  | _, _, s, σ, env, .cons (n := n) (u := u) hi hx hf rv ru t, I, re, q => by
    refine PyProof.Rows.assignInOrder_cons ?_
    show wpAny _ _ (do holding [u] point; storeName X.env n u; point) _ _ _
    refine wpAny_bind (wpAny_holding (wpAny_point (wpAny_bind (store_ok I hN hi hx ru (fun s1 I1 => wpAny_point ?_) hf))))
    exact bind_all hN t I1 (re.set rv) q
theorem pcm_cons {p : Pattern} {body : List Stmt} {rest : List MatchCase} {mp : MP} {b : MS} {mr : IV → MS} (hN : X.N.Nodup) (hp : PPm X p mp) (hb : PSsm X W body b) (hr : PCm X W rest mr) : PCm X W (⟨p, none, body⟩ :: rest) (cC mp b mr) := fun first pins s σ H v u r x env st D I m re rv ru h => by
  unfold cC at h
  cases k : mp x st with
  | none => rw [k] at h; exact h.elim
  | some o =>
    rw [k] at h
    refine wpAny_matchCases_cons (hp pins s σ H v u r x st o _ I m rv ru k fun s1 z I1 b1 => ?_)
    cases o with
    | none =>
      cases z with
      | none => exact hr false pins s1 σ H v u r x env st D I1 m re rv ru h
      | some _ => exact b1.elim
    | some ms =>
      cases z with
      | none => exact b1.elim
      | some bs =>
        exact bind_all hN b1 I1 re fun s2 σ2 I2 re2 => hb.run pins s2 σ2 H D I2 ⟨r, _, st, re2, m, h⟩
theorem psm_match {e : Expr} {m : ME} {cs : List MatchCase} {mc : IV → MS} (he : PEm X W e m) (hc : PCm X W cs mc) : PSm X W (.Match e cs pos) (sMatch m mc) := ⟨fun pins s σ H D I ⟨r, env, st, re, hm, h⟩ => by
  refine wpAny_Match (thn (he.run pins s σ H _ I ⟨r, env, st, re, hm, AftS.exp (rel := rV X.K) re hm h⟩) fun u s1 ⟨v, H1, I1, r1, x, r', st', x1, m1, rv, h1⟩ => ?_)
  exact hc true pins s1 σ H1 v u r' x env st' D I1 m1 (re.mono x1 hm) rv r1 h1⟩
end
end Sm

set_option Elab.async false
set_option linter.all false
set_option maxRecDepth 100000
set_option maxHeartbeats 4000000
namespace Sm
open L2 PySem PySem.Spec
/-! ### repr, raise, try -/
def toDs (f : IV → Option PyData) : List IV → Option (List PyData)
  | [] => some []
  | x :: xs => match f x, toDs f xs with
    | some a, some b => some (a :: b)
    | _, _ => none
def toD (st : Hs) : Nat → IV → Option PyData
  | 0, _ => none
  | n + 1, x => match x with
    | .non => some .none
    | .bl b => some (.bool b)
    | .int i => some (.int i)
    | .str z => some (.str z)
    | .tup xs => (toDs (toD st n) xs).map .tuple
    | .rl xs => (toDs (toD st n) xs).map .list
    | .ref a => (ioL st[a]?).bind fun xs => (toDs (toD st n) xs).map .list
    | .obj _ _ _ => none
    | .fd _ _ => none
    | .cls _ => none
def isSeqD : PyData → Bool
  | .tuple _ => true
  | .list _ => true
  | _ => false
def bRepr : On := fun xs st => match xs with
  | [x] => (toD st 40 x).bind fun d => if (isSeqD d && d.showable && !d.hasDict && decide (d.shown.length ≤ big)) = true then some (.str d.shown, st) else none
  | _ => none
section
variable {X : Cx} {W : WX} {pos : Pos} {H : Hp} {r : List Addr} {st : Hs}
theorem toDs_dp {f : IV → Option PyData} : ∀ {xs : List IV} {ds : List PyData} {vs : List V}, (∀ x d v, f x = some d → RV X.K H r x v → Dp X.K H v d) → toDs f xs = some ds → RVs X.K H r xs vs → DpAll X.K H vs ds
  | [], _, _, _, h, .nil => by cases h; exact .nil
  | x :: xs, ds, _, hf, h, .cons a b => by
    unfold toDs at h
    split at h
    · rename_i d ds' h1 h2
      cases h
      exact .cons (hf _ _ _ h1 a) (toDs_dp hf h2 b)
    · cases h
theorem toD_dp (m : Mt X.K H r st) : ∀ (n : Nat) (x : IV) (d : PyData) (v : V), toD st n x = some d → RV X.K H r x v → Dp X.K H v d
  | 0, _, _, _, h, _ => by cases h
  | n + 1, x, d, v, h, rv => by
    cases rv with
    | non => cases h; exact .non
    | bl b => cases h; exact .bl b
    | int i => cases h; exact .int i
    | str z => cases h; exact .str z
    | @tup p vs xs ht rs =>
      have h : (toDs (toD st n) xs).map PyData.tuple = some d := h
      cases k : toDs (toD st n) xs with
      | none => rw [k] at h; cases h
      | some ds => rw [k] at h; cases h; exact .tup ht (toDs_dp (toD_dp m n) k rs)
    | @rl p vs xs ht rs =>
      have h : (toDs (toD st n) xs).map PyData.list = some d := h
      cases k : toDs (toD st n) xs with
      | none => rw [k] at h; cases h
      | some ds => rw [k] at h; cases h; exact .lst ht.sq (toDs_dp (toD_dp m n) k rs)
    | @ref a p hp =>
      have h : (ioL st[a]?).bind (fun xs => (toDs (toD st n) xs).map PyData.list) = some d := h
      cases q : ioL st[a]? with
      | none => rw [q] at h; cases h
      | some xs =>
        rw [q] at h
        simp only [Option.bind_some] at h
        obtain ⟨vs, e1, rs⟩ := m.at_ _ _ _ (ioL_some q) hp
        cases k : toDs (toD st n) xs with
        | none => rw [k] at h; cases h
        | some ds => rw [k] at h; cases h; exact .lst (.inl (.inl e1)) (toDs_dp (toD_dp m n) k rs)
    | obj _ _ _ _ _ _ _ => cases h
    | fd _ _ _ _ => cases h
    | cls _ _ _ _ => cases h
theorem toDs_depth {f : IV → Option PyData} {n : Nat} : ∀ {xs : List IV} {ds : List PyData}, (∀ x d, f x = some d → d.depth ≤ n) → toDs f xs = some ds → PyData.depthAll ds ≤ n
  | [], _, _, h => by cases h; exact Nat.zero_le _
  | x :: xs, ds, hf, h => by
    unfold toDs at h
    split at h
    · rename_i d ds' h1 h2
      cases h
      show max d.depth (PyData.depthAll ds') ≤ n
      have a := hf _ _ h1
      have b := toDs_depth hf h2
      omega
    · cases h
theorem toD_depth : ∀ (n : Nat) (x : IV) (d : PyData), toD st n x = some d → d.depth ≤ n
  | 0, _, _, h => by cases h
  | n + 1, x, d, h => by
    have go : ∀ xs ds, toDs (toD st n) xs = some ds → PyData.depthAll ds + 1 ≤ n + 1 := fun xs ds k => Nat.succ_le_succ (toDs_depth (toD_depth n) k)
    cases x with
    | non => cases h; exact Nat.zero_le _
    | bl b => cases h; exact Nat.zero_le _
    | int i => cases h; exact Nat.zero_le _
    | str z => cases h; exact Nat.zero_le _
    | tup xs =>
      have h : (toDs (toD st n) xs).map PyData.tuple = some d := h
      cases k : toDs (toD st n) xs with
      | none => rw [k] at h; cases h
      | some ds => rw [k] at h; cases h; exact go _ _ k
    | rl xs =>
      have h : (toDs (toD st n) xs).map PyData.list = some d := h
      cases k : toDs (toD st n) xs with
      | none => rw [k] at h; cases h
      | some ds => rw [k] at h; cases h; exact go _ _ k
    | ref a =>
      have h : (ioL st[a]?).bind (fun xs => (toDs (toD st n) xs).map PyData.list) = some d := h
      cases q : ioL st[a]? with
      | none => rw [q] at h; cases h
      | some xs =>
        rw [q] at h
        simp only [Option.bind_some] at h
        cases k : toDs (toD st n) xs with
        | none => rw [k] at h; cases h
        | some ds => rw [k] at h; cases h; exact go _ _ k
    | obj c ns xs => cases h
    | fd ks xs => cases h
    | cls _ => cases h
theorem cb_repr (hg : X.A.guards = some []) (hu : X.A.units + 64 < cLine) : CallR X (.builtin "repr") (rMs X.K bRepr) := by
  intro pins s σ H vs us Q I rv h0
  obtain ⟨r, xs, st, z, st', e, rs, m, h⟩ := rMs_inv h0
  revert e rs
  unfold bRepr
  split <;> intro e rs
  · rename_i x
    obtain ⟨v, rfl, rx⟩ := rvs_one rs
    obtain ⟨u, rfl, ru⟩ := Vals.one rv
    cases k : toD st 40 x with
    | none => rw [k] at e; cases e
    | some d =>
      rw [k] at e
      simp only [Option.bind_some] at e
      split at e
      · rename_i c
        cases e
        simp only [Bool.and_eq_true, Bool.not_eq_true', decide_eq_true_eq] at c
        obtain ⟨⟨⟨c1, c2⟩, c3⟩, c4⟩ := c
        have dp := toD_dp m 40 x d v k rx
        have dd := toD_depth 40 x d k
        obtain ⟨as, rd⟩ := Dp.reads I d v u dp ru
        have fin : ∀ p, u = .ref p → wpAny (model X.prog X.w) X.A (call (.builtin "repr") [u]) (EP X pins σ Q) X.xe s := fun p eu => by
          subst eu
          exact repr_of_reads' rd c2 (PyData.noDict_hsm c3) hg (by omega) (fun _ _ e => e) (fun h' tk tks hk => ⟨.str d.shown, H, I.kept hk, ⟨_, rfl⟩, h r H _ Xt.refl m (.str _)⟩) (by rw [← big_eq]; exact c4)
        cases dp with
        | lst _ _ => cases ru; exact fin _ rfl
        | tup _ _ => cases ru; exact fin _ rfl
        | _ => cases c1
      · cases e
  · cases e
/-- a class of the module that is an exception without own __init__ -/
def ExcAt (K : PySem.W.Frag) (mg : Str → Option Value) (n : Str) : Prop := ∃ (C : Addr) (B newId initId : String) (bmB : List Value), ExcBaseFacts B newId initId bmB ∧ PySem.W.excIn K C bmB newId = true ∧ mg n = some (.ref C) ∧ PySem.W.keepIn K (.ref C) = true ∧
  PySem.W.subIn K (.ref C) (.type "BaseException") = some true ∧ PySem.W.typeIn K (.ref C) = some (.type "type")
theorem psm_raise1 {n m : Str} {j : Nat} {p p2 pos' : Pos} (h : ExcAt X.K X.mg n) (hc : X.calm = true) (tk : L2.Takes X W) (hg : Gl X n) (hdb : (n == ("__debug__" : Str)) = false := by decide) : PSm X W (.Raise (some (.Call (.Name n p) [.Constant (.str m) j p2] [] pos')) none pos) (sRaise n) := by
  obtain ⟨C, B, newId, initId, bmB, F, q, gC, kC, h1, h2⟩ := h
  exact psm_raise hc tk (pmk_own F q gC kC (raises_own h1 h2) hg hdb) gC
/-- try: .. except c: .. ; sub tells which of the module's exceptions c takes -/
def sTry (b : MS) (sub : Str → Option Bool) (hd : MS) : MS := fun env st => match b env st with
  | .ex e env' st' => match sub e.c with
    | some true => match hd env' st' with
      | .ex _ _ _ => .no
      | x => x
    | some false => .ex e env' st'
    | none => .no
  | x => x
def SubAt (K : PySem.W.Frag) (mg : Str → Option Value) (c : Value) (sub : Str → Option Bool) : Prop := ∀ n cls b, sub n = some b → mg n = some cls → PySem.W.exmOne K cls c = some b
theorem psm_try {x : Str} {c : Value} {body suite : List Stmt} {b₀ : Stmt} {np pos' : Pos} {mb mh : MS} {sub : Str → Option Bool} (hs : X.stack = X.env :: X.outer) (hf : X.env.frame = some X.env.locals) (hc : Names X x c) (tk : L2.Takes X W) (hsub : SubAt X.K X.mg c sub)
    (hb : ∀ (W : WX) (pn : List (Addr × Obj)) (xe : Value → Shared → Prop), L2.Takes (X.tr pn xe) W → PassesOwn (model X.prog X.w) X.A X.env xe → PSsm (X.tr pn xe) W body mb)
    (hsu : ∀ (a : Addr) (oe : Obj) (pn : List (Addr × Obj)), PSsm (X.suite a ((a, oe) :: pn)) W0 (b₀ :: suite) mh) :
    PSm X W (.Try body [.ExceptHandler (some (.Name x np)) none (b₀ :: suite) pos'] [] [] pos) (sTry mb sub mh) :=
  PS.weak (ps_try_only (tb := fun W => tS X W mb) (ts := fun _ _ _ => tS X W0 mh) hs hf hc tk (fun W pn xe h1 h2 => hb W pn xe h1 h2) (fun a oe cls d pn _ _ => hsu a oe pn)) fun D σ H ⟨r, env, st, re, m, h⟩ => ⟨r, env, st, re, m, by
    unfold sTry at h
    cases q : mb env st with
    | no => rw [q] at h; exact h
    | nx e s2 => rw [q] at h; exact h
    | rt v s2 => rw [q] at h; exact h
    | bk e s2 => rw [q] at h; exact h
    | ct e s2 => rw [q] at h; exact h
    | ex e env' s2 =>
      rw [q] at h
      dsimp only at h
      intro r' H' σ' cls d x1 m1 re1 hx
      cases q2 : sub e.c with
      | none => rw [q2] at h; exact h.elim
      | some b =>
        rw [q2] at h
        refine ⟨b, hsub _ _ _ q2 hx.1, fun eb a ha => ?_, fun eb => ?_⟩
        · subst eb
          dsimp only at h
          refine ⟨r', env', s2, re1, m1, ?_⟩
          cases q3 : mh env' s2 with
          | ex _ _ _ => rw [q3] at h; exact h.elim
          | no => rw [q3] at h; exact h
          | nx e5 s5 => rw [q3] at h; exact AftS.later (W := W0) (x := .nx e5 s5) h x1
          | rt e5 s5 => rw [q3] at h; exact AftS.later (W := W0) (x := .rt e5 s5) h x1
          | bk e5 s5 => rw [q3] at h; exact AftS.later (W := W0) (x := .bk e5 s5) h x1
          | ct e5 s5 => rw [q3] at h; exact AftS.later (W := W0) (x := .ct e5 s5) h x1
        · subst eb
          exact h r' H' σ' cls d x1 m1 re1 hx⟩
end
end Sm
namespace Sm
open L2 PySem PySem.Spec
/-! ### a sign, types -/
def mNeg (m : ME) : ME := fun env => bnd (m env) fun x st => match x with
  | .int i => .ok (.int (-i)) st
  | _ => .no
theorem pem_neg {X : Cx} {W : WX} {pos : Pos} {e : Expr} {m : ME} (h : PEm X W e m) : PEm X W (.UnaryOp .USub e pos) (mNeg m) := PE.weak (pe_un un_neg h) fun σ H Q ⟨r, env, st, he, hm, h⟩ => ⟨r, env, st, he, hm, (Aft.split (rel := rV X.K) h).imp fun v H1 ⟨x, r1, st1, x1, m1, rv, h1⟩ => by
  cases rv with
  | int i => exact ⟨i, rfl, h1 r1 H1 _ Xt.refl m1 (.int _)⟩
  | _ => exact h1.elim⟩
theorem kit_int : ∀ t, t ∈ ["NoneType", "bool", "int", "str", "tuple", "list", "dict"] → kitB t "int" = some (subTy t "int") := by decide +kernel
theorem kit_bool : ∀ t, t ∈ ["NoneType", "bool", "int", "str", "tuple", "list", "dict"] → kitB t "bool" = some (subTy t "bool") := by decide +kernel
theorem kit_str : ∀ t, t ∈ ["NoneType", "bool", "int", "str", "tuple", "list", "dict"] → kitB t "str" = some (subTy t "str") := by decide +kernel
theorem kit_tuple : ∀ t, t ∈ ["NoneType", "bool", "int", "str", "tuple", "list", "dict"] → kitB t "tuple" = some (subTy t "tuple") := by decide +kernel
theorem kit_list : ∀ t, t ∈ ["NoneType", "bool", "int", "str", "tuple", "list", "dict"] → kitB t "list" = some (subTy t "list") := by decide +kernel
theorem kit_dict : ∀ t, t ∈ ["NoneType", "bool", "int", "str", "tuple", "list", "dict"] → kitB t "dict" = some (subTy t "dict") := by decide +kernel
end Sm
namespace Sm
open L2 PySem PySem.Spec
/-! ### a comprehension's scope, by a test -/
def blkB (N : List Str) (sc scope : Scope) (own : List (Str × Nat)) : Bool :=
  decide (scope.kind = .function) && (scope.names.all (fun y => decide (scope.names.lookup y.1 = some y.2)) && (own.all (fun p => decide (N[p.2]? = some p.1)) &&
    (scope.names.all (fun y => !decide (y.2 = .free) || (decide (sc.names.lookup y.1 = some .cell) || decide (sc.names.lookup y.1 = some .free))) &&
      scope.names.all (fun y => !(decide (y.2 = .local) || decide (y.2 = .cell)) || (decide (y.1 ∈ own.map (·.1)) || !decide (y.1 ∈ N))))))
theorem blk_ok {N : List Str} {sc scope : Scope} {own : List (Str × Nat)} (h : blkB N sc scope own = true) : BlkOk N sc scope own := by
  unfold blkB at h
  simp only [Bool.and_eq_true, List.all_eq_true, decide_eq_true_eq, Bool.or_eq_true, Bool.not_eq_true', decide_eq_false_iff_not, Bool.or_eq_false_iff] at h
  obtain ⟨h1, h2, h3, h4, h5⟩ := h
  exact ⟨h1, h2, h3, fun y hy e => (h4 y hy).elim (fun z => absurd e z) id, fun y hy e => (h5 y hy).elim (fun z => e.elim (fun q => absurd q z.1) (fun q => absurd q z.2)) id⟩
end Sm
namespace Sm
open L2 PySem PySem.Spec
/-! ### from the head's facts -/
theorem defAt_mk {K : PySem.W.Frag} {mg : Str → Option Value} {x : Str} {t : Stmt} {ps : List Str} {a : Addr} (h : ∃ fd, FunD K x x (defArgs t) (defBody t) (defScope t) [] [] a fd) (e : mg x = some (.ref a))
    (b : ∀ (kV doc pm : Value) (an : Option Addr) (cdv ct : Value) (us : List Value), us.length = ps.length → bindArgs (PySem.W.fnOf x x (defArgs t) (defBody t) (defScope t) .none kV doc pm an cdv ct) ⟨us, []⟩ = pure (ps.zip us)) : DefAt K mg x t ps := by
  obtain ⟨fd, F⟩ := h
  exact ⟨a, fd, He5.fun_of F, e, Fun.binds (He5.fun_of F) b⟩
theorem exc_mk {K : PySem.W.Frag} {mg : Str → Option Value} {n : Str} (c : (He.Fa.exc n).ok K = true) (e : mg n = some (.ref (He.ga K n))) : ExcAt K mg n := by
  obtain ⟨c1, c2, c3, c4⟩ := He.exc_ok c
  exact ⟨He.ga K n, _, _, _, _, PySem.F.excBase_ValueError, c1, e, c2, c3, c4⟩
inductive SubL (K : PySem.W.Frag) (mg : Str → Option Value) (c : Value) : List (Str × Bool) → Prop where
  | nil : SubL K mg c []
  | cons {n : Str} {C : Value} {b : Bool} {r : List (Str × Bool)} : mg n = some C → PySem.W.exmOne K C c = some b → SubL K mg c r → SubL K mg c ((n, b) :: r)
theorem subAt_mk {K : PySem.W.Frag} {mg : Str → Option Value} {c : Value} {l : List (Str × Bool)} (h : SubL K mg c l) : SubAt K mg c (fun n => l.lookup n) := by
  induction h with
  | nil => exact fun n cls b e => by cases e
  | @cons m C b r e1 e2 _ ih =>
    intro n cls b' e e3
    have e : List.lookup n ((m, b) :: r) = some b' := e
    rw [List.lookup_cons] at e
    cases q : n == m with
    | true =>
      rw [q] at e
      cases e
      have en : n = m := eq_of_beq q
      rw [en, e1] at e3
      cases e3
      exact e2
    | false =>
      rw [q] at e
      exact ih n cls b' e e3
theorem bind_of {K : PySem.W.Frag} {x p : Str} {t : Stmt} {f : Addr} {fd : FuncData} (F : Fun K x x t f fd)
    (h : ∀ (kV doc pm : Value) (an : Option Addr) (cdv ct : Value) (us : List Value), us.length = [p].length → bindArgs (PySem.W.fnOf x x (defArgs t) (defBody t) (defScope t) .none kV doc pm an cdv ct) ⟨us, []⟩ = pure ([p].zip us)) (s : Shared) (u : Value) : BindsTo s fd ⟨[u], []⟩ [(p, u)] := by
  obtain ⟨oc, od, kV, doc, pm, an, cdv, ct, osl, rfl, lk, hcd⟩ := F.ex
  exact .of_eq (h kV doc pm an cdv ct [u] rfl)
end Sm

set_option Elab.async false
set_option linter.all false
set_option maxRecDepth 100000
set_option maxHeartbeats 4000000
namespace Sm
open L2 PySem PySem.Spec
/-! ### facts about the mirrors, no program in sight -/
theorem at_nat {α : Type} (xs : List α) (k : Nat) : atI xs (k : Int) = xs[k]? := by
  unfold atI ixN
  rw [if_pos (by omega)]
  by_cases h : (k : Int) < xs.length
  · rw [if_pos h]
    simp
  · rw [if_neg h, List.getElem?_eq_none (by omega)]
    rfl
theorem at0 {α : Type} (xs : List α) : atI xs 0 = xs[0]? := at_nat xs 0
theorem at1 {α : Type} (xs : List α) : atI xs 1 = xs[1]? := at_nat xs 1
theorem at2 {α : Type} (xs : List α) : atI xs 2 = xs[2]? := at_nat xs 2
theorem at_int {α : Type} (xs : List α) {i : Int} (h : 0 ≤ i) : atI xs i = xs[i.toNat]? := by
  have e := at_nat xs i.toNat
  rwa [Int.toNat_of_nonneg h] at e
theorem at_m1 {α : Type} (xs : List α) : atI xs (-1) = xs.getLast? := by
  unfold atI ixN
  rw [if_neg (by decide)]
  cases xs with
  | nil => rfl
  | cons x xs =>
    rw [if_pos (by simp; omega), List.getLast?_eq_getElem?]
    show (x :: xs)[(-1 + ((x :: xs).length : Int)).toNat]? = _
    congr 1
    simp
    omega
theorem emod_bd (i j : Int) (h : 0 < j) : 0 ≤ i % j ∧ i % j < j := ⟨Int.emod_nonneg _ (by omega), Int.emod_lt_of_pos _ h⟩
/-! sizes -/
theorem bg1 : 1 ≤ big := by decide
theorem bg2 : 2 ≤ big := by decide
theorem bg3 : 3 ≤ big := by decide
theorem bg4 : 4 ≤ big := by decide
theorem bg5 : 5 ≤ big := by decide
theorem bg6 : 6 ≤ big := by decide
theorem bg7 : 7 ≤ big := by decide
theorem bg8 : 8 ≤ big := by decide
theorem bg9 : 9 ≤ big := by decide
theorem bg10 : 10 ≤ big := by decide
theorem bg11 : 11 ≤ big := by decide
theorem bg12 : 12 ≤ big := by decide
theorem bg13 : 13 ≤ big := by decide
theorem bg14 : 14 ≤ big := by decide
theorem bg15 : 15 ≤ big := by decide
theorem bg16 : 16 ≤ big := by decide
theorem bg17 : 17 ≤ big := by decide
theorem bg18 : 18 ≤ big := by decide
theorem bg19 : 19 ≤ big := by decide
theorem bg20 : 20 ≤ big := by decide
/-! calls -/
theorem runC_ref {f : List IV → M IV} {a : Nat} {xs : List IV} {st : Hs} : runC f (.ref a :: xs) st = f (.ref a :: xs) st := by
  unfold runC
  rw [if_neg (by simp [clIs, clI])]
theorem runC_cl {f : List IV → M IV} {xs : List IV} {st : Hs} {v : IV} (h : clIs xs = true) (hv : clI v = true) (e : ∃ s, f xs [] = .ok v s) (hp : (noIns st || plI v) = true := by first | rfl | simp [plI]) : runC f xs st = .ok v st := by
  obtain ⟨s, e⟩ := e
  unfold runC
  rw [if_pos h, e]
  simp only [hv, hp, Bool.and_self, if_true]
/-! known: each reference in it is one -/
def refK : Option IO → Bool
  | some (.lst _) => true
  | some (.dct _) => true
  | _ => false
mutual
def knI (st : Hs) : IV → Bool
  | .tup xs => knIs st xs
  | .ref a => refK st[a]?
  | .obj _ _ _ => false
  | .fd _ _ => false
  | .cls _ => false
  | .str z => decide (z.length ≤ big)
  | _ => true
def knIs (st : Hs) : List IV → Bool
  | [] => true
  | x :: xs => knI st x && knIs st xs
end
mutual
theorem kn_cl {st st' : Hs} : ∀ x : IV, clI x = true → knI st x = true → knI st' x = true
  | .tup xs, h, k => kns_cl xs h k
  | .non, _, _ => rfl
  | .bl _, _, _ => rfl
  | .int _, _, _ => rfl
  | .str _, _, k => k
  | .rl _, _, _ => rfl
  | .ref _, h, _ => by cases h
  | .obj _ _ _, _, k => by cases k
  | .fd _ _, _, k => by cases k
  | .cls _, _, k => by cases k
theorem kns_cl {st st' : Hs} : ∀ xs : List IV, clIs xs = true → knIs st xs = true → knIs st' xs = true
  | [], _, _ => rfl
  | x :: xs, h, k => by
    have h := Bool.and_eq_true_iff.mp (show (clI x && clIs xs) = true from h)
    have k := Bool.and_eq_true_iff.mp (show (knI st x && knIs st xs) = true from k)
    exact Bool.and_eq_true_iff.mpr ⟨kn_cl x h.1 k.1, kns_cl xs h.2 k.2⟩
end
theorem kns_mem {st : Hs} : ∀ {xs : List IV} {x : IV}, knIs st xs = true → x ∈ xs → knI st x = true
  | y :: ys, x, h, m => by
    have h := Bool.and_eq_true_iff.mp (show (knI st y && knIs st ys) = true from h)
    rcases List.mem_cons.mp m with e | m
    · rw [e]; exact h.1
    · exact kns_mem h.2 m
theorem kns_all {st : Hs} : ∀ {xs : List IV}, (∀ x ∈ xs, knI st x = true) → knIs st xs = true
  | [], _ => rfl
  | y :: ys, h => Bool.and_eq_true_iff.mpr ⟨h y (by simp), kns_all fun x hx => h x (by simp [hx])⟩
theorem cls_mem : ∀ {xs : List IV} {x : IV}, clIs xs = true → x ∈ xs → clI x = true
  | y :: ys, x, h, m => by
    have h := Bool.and_eq_true_iff.mp (show (clI y && clIs ys) = true from h)
    rcases List.mem_cons.mp m with e | m
    · rw [e]; exact h.1
    · exact cls_mem h.2 m
theorem cls_all : ∀ {xs : List IV}, (∀ x ∈ xs, clI x = true) → clIs xs = true
  | [], _ => rfl
  | y :: ys, h => Bool.and_eq_true_iff.mpr ⟨h y (by simp), cls_all fun x hx => h x (by simp [hx])⟩
theorem refK_some {o : Option IO} (h : refK o = true) : (∃ xs, o = some (.lst xs)) ∨ ∃ kvs, o = some (.dct kvs) := by
  cases o with
  | none => cases h
  | some o =>
    cases o with
    | lst xs => exact .inl ⟨_, rfl⟩
    | dct kvs => exact .inr ⟨_, rfl⟩
    | ins c ns xs => cases h
theorem ty_kn {st : Hs} {x : IV} (h : knI st x = true) : ∃ t, tyName st x = some t := by
  cases x with
  | ref a =>
    unfold tyName
    dsimp only
    rcases refK_some (show refK st[a]? = true from h) with ⟨xs, e⟩ | ⟨kvs, e⟩ <;> rw [e] <;> exact ⟨_, rfl⟩
  | obj c ns xs => cases h
  | fd ks xs => cases h
  | cls _ => cases h
  | _ => exact ⟨_, rfl⟩
theorem kn_app {st l : Hs} : ∀ {x : IV}, knI st x = true → knI (st ++ l) x = true := by
  intro x h
  have rk : ∀ a : Nat, refK st[a]? = true → refK (st ++ l)[a]? = true := fun a h => by
    have e : (st ++ l)[a]? = st[a]? := by
      cases k : st[a]? with
      | none => rw [k] at h; cases h
      | some o => rw [List.getElem?_append_left (List.getElem?_eq_some_iff.mp k).1, k]
    rw [e]; exact h
  have go : (∀ x : IV, knI st x = true → knI (st ++ l) x = true) := fun x => IV.rec (motive_1 := fun x => knI st x = true → knI (st ++ l) x = true) (motive_2 := fun xs => knIs st xs = true → knIs (st ++ l) xs = true)
    (fun h => h) (fun _ h => h) (fun _ h => h) (fun z h => h) (fun xs ih h => ih h) (fun _ _ h => rfl)
    (fun a h => rk a h) (fun c ns xs _ h => by cases h) (fun ks xs _ h => by cases h) (fun c h => by cases h)
    (fun h => h) (fun x xs i1 i2 h => by
      have h := Bool.and_eq_true_iff.mp (show (knI st x && knIs st xs) = true from h)
      exact Bool.and_eq_true_iff.mpr ⟨i1 h.1, i2 h.2⟩) x
  exact go x h
/-- a known value against a text in a pattern -/
def isStr (z : Str) : IV → Bool
  | .str y => y == z
  | _ => false
theorem eqP_str {st : Hs} {x : IV} {z : Str} (h : knI st x = true) : eqP st x (.str z) = some (isStr z x) := by
  cases x with
  | ref a =>
    unfold eqP
    dsimp only
    rcases refK_some (show refK st[a]? = true from h) with ⟨xs, e⟩ | ⟨kvs, e⟩
    · rw [e]
      dsimp only
      unfold eqI
      simp [lstOf, ioL, e, isDat, isStr]
    · rw [e]
      rfl
  | obj c ns xs => cases h
  | fd ks xs => cases h
  | cls _ => cases h
  | non => rfl
  | bl _ => rfl
  | int _ => rfl
  | str _ => rfl
  | tup _ => rfl
  | rl _ => rfl
/-- is the tuple empty -/
theorem eqI_tup0 {st : Hs} {xs : List IV} : eqI st 40 (.tup xs) (.tup []) = some (xs.length == 0) := by
  cases xs with
  | nil => rfl
  | cons x xs => rfl
theorem eqI_lst0 {st : Hs} {a b : Nat} {xs : List IV} (h : ioL st[a]? = some xs) (g : ioL st[b]? = some []) : eqI st 40 (.ref a) (.ref b) = some (xs.length == 0) := by
  unfold eqI
  simp only [lstOf, h, g]
  cases xs with
  | nil => rfl
  | cons x xs => rfl
theorem eqI_int {st : Hs} {i j : Int} : eqI st 40 (.int i) (.int j) = some (i == j) := rfl
theorem eqI_str {st : Hs} {i j : Str} : eqI st 40 (.str i) (.str j) = some (i == j) := rfl
/-! comprehensions -/
/-- each turn gives a value that keeps Pr, and the state moves by Rl -/
theorem goLc_all {s : Src} {g : MG} {m : ME} {env : Env} {Pr : IV → Prop} {Rl : Hs → Hs → Prop} (rf : ∀ st st', Rl st st' → Rl st' st') (tr : ∀ a b c, Rl a b → Rl b c → Rl a c)
    (fin : ∀ st, Rl st st → s.fin st = true)
    (hb : ∀ i st, i < s.n → Rl st st → ∃ x env' y st', s.item i st = some x ∧ g x env st = .ok env' st ∧ m env' st = .ok y st' ∧ Pr y ∧ Rl st st') :
    ∀ (k i : Nat) (acc : List IV) (st : Hs), i + k = s.n → s.n ≤ big → acc.length = i → Rl st st → (∀ x ∈ acc, Pr x) → ∃ xs st', goLc s g mtYes m env k i acc st = .ok xs st' ∧ xs.length = s.n ∧ (∀ x ∈ xs, Pr x) ∧ Rl st st'
  | 0, i, acc, st, ek, hn, hl, h, ha => by
    refine ⟨acc, st, ?_, by omega, ha, h⟩
    unfold goLc
    rw [if_pos (fin st h)]
  | k + 1, i, acc, st, ek, hn, hl, h, ha => by
    obtain ⟨x, env', y, st', e1, e2, e3, hy, h'⟩ := hb i st (by omega) h
    obtain ⟨xs, st2, e4, e5, e6, e7⟩ := goLc_all rf tr fin hb k (i + 1) (acc ++ [y]) st' (by omega) hn (by simp [hl]) (rf _ _ h') (fun z hz => by
      rcases List.mem_append.mp hz with q | q
      · exact ha z q
      · rw [List.mem_singleton.mp q]; exact hy)
    refine ⟨xs, st2, ?_, e5, e6, tr _ _ _ h' e7⟩
    unfold goLc
    simp only [e1, e2, mtYes, Sm.ret, e3]
    rw [if_pos (by omega)]
    exact e4
/-- each turn gives what F tells of the turn, and leaves the state but for new objects -/
theorem goLc_map {s : Src} {g : MG} {m : ME} {env : Env} {F : Nat → IV} (Rl : Hs → Prop) (ap : ∀ st l, Rl st → Rl (st ++ l)) (fin : ∀ st, Rl st → s.fin st = true)
    (hb : ∀ i st, i < s.n → Rl st → ∃ x env' l, s.item i st = some x ∧ g x env st = .ok env' st ∧ m env' st = .ok (F i) (st ++ l)) :
    ∀ (k i : Nat) (acc : List IV) (st : Hs), i + k = s.n → s.n ≤ big → acc.length = i → Rl st → ∃ l, goLc s g mtYes m env k i acc st = .ok (acc ++ (List.range' i k).map F) (st ++ l)
  | 0, i, acc, st, ek, hn, hl, h => by
    refine ⟨[], ?_⟩
    unfold goLc
    rw [if_pos (fin st h)]
    simp
  | k + 1, i, acc, st, ek, hn, hl, h => by
    obtain ⟨x, env', l, e1, e2, e3⟩ := hb i st (by omega) h
    obtain ⟨l2, e4⟩ := goLc_map Rl ap fin hb k (i + 1) (acc ++ [F i]) (st ++ l) (by omega) hn (by simp [hl]) (ap _ _ h)
    refine ⟨l ++ l2, ?_⟩
    unfold goLc
    simp only [e1, e2, mtYes, Sm.ret, e3]
    rw [if_pos (by omega), e4]
    simp [List.range'_succ]
theorem bls_map {bs : List Bool} : blsOf (bs.map IV.bl) = some bs := by
  induction bs with
  | nil => rfl
  | cons b bs ih => simp [blsOf, ih]
theorem strs_map {zs : List Str} : strsOf (zs.map IV.str) = some zs := by
  induction zs with
  | nil => rfl
  | cons b bs ih => simp [strsOf, ih]
theorem goLc_seq {x : IV} {ys : List IV} {j : Nat} {m : ME} {env : Env} {F : IV → IV} (Rl : Hs → Prop) (ap : ∀ st l, Rl st → Rl (st ++ l)) (hs : ∀ st, Rl st → seqOf st x = some ys)
    (hb : ∀ y ∈ ys, ∀ st, Rl st → ∃ l, m (env.set j (some y)) st = .ok (F y) (st ++ l)) (hn : ys.length ≤ big) (st : Hs) (h : Rl st) : ∃ l, goLc (.seq x ys.length) (gNm j) mtYes m env ys.length 0 [] st = .ok (ys.map F) (st ++ l) := by
  have e := goLc_map (s := .seq x ys.length) (g := gNm j) (m := m) (env := env) (F := fun i => match ys[i]? with
    | some y => F y
    | none => .non) Rl ap (fun st h => by simp [Src.fin, hs st h]) (fun i st hi h => by
      have hi : i < ys.length := hi
      obtain ⟨l, e⟩ := hb _ (List.getElem_mem hi) st h
      exact ⟨ys[i], _, l, by simp [Src.item, hs st h, hi], rfl, by rw [List.getElem?_eq_getElem hi]; exact e⟩) ys.length 0 [] st (Nat.zero_add _) hn rfl h
  obtain ⟨l, e⟩ := e
  refine ⟨l, ?_⟩
  rw [e, List.nil_append]
  congr 1
  apply List.ext_getElem
  · simp
  · intro i h1 h2
    have h1 : i < ys.length := by simpa using h1
    rw [List.getElem_map, List.getElem_map, List.getElem_range', Nat.zero_add, Nat.one_mul, List.getElem?_eq_getElem h1]
/-! slices -/
theorem cut_m1 {α : Type} (xs : List α) : cutI xs none (some (-1)) = xs.dropLast := by
  unfold cutI HT.sIx
  rw [List.dropLast_eq_take]
  simp
  congr 1
  omega
theorem cut_to {α : Type} (xs : List α) (k : Nat) : cutI xs none (some (k : Int)) = xs.take k := by
  unfold cutI
  rw [HT.sIx_none, HT.sIx_nat, List.drop_zero, Nat.sub_zero]
  by_cases h : k ≤ xs.length
  · rw [Nat.min_eq_left h]
  · rw [Nat.min_eq_right (by omega), List.take_length, List.take_of_length_le (by omega)]
theorem cut_from {α : Type} (xs : List α) (k : Nat) : cutI xs (some (k : Int)) none = xs.drop k := by
  unfold cutI
  rw [HT.sIx_none, HT.sIx_nat]
  by_cases h : k ≤ xs.length
  · rw [Nat.min_eq_left h]
    rw [List.take_of_length_le (by simp)]
  · rw [Nat.min_eq_right (by omega), List.drop_length, List.drop_eq_nil_of_le (by omega)]
    simp
end Sm

set_option Elab.async false
set_option linter.all false
set_option maxRecDepth 100000
set_option maxHeartbeats 4000000
namespace Sm
open L2 PySem PySem.Spec
/-! ### instances: fields, properties, methods, making -/
/-- an instance's class and fields -/
def insOf (st : Hs) : IV → Option (Str × List Str × List IV)
  | .obj c ns xs => some (c, ns, xs)
  | .ref a => match st[a]? with
    | some (.ins c ns xs) => some (c, ns, xs)
    | _ => none
  | _ => none
def fldOf (f : Str) : List Str → List IV → Option IV
  | n :: ns, x :: xs => if n = f then some x else fldOf f ns xs
  | _, _ => none
def putI (f : Str) (v : IV) : List Str → List IV → List Str × List IV
  | n :: ns, x :: xs => if n = f then (n :: ns, v :: xs) else let r := putI f v ns xs; (n :: r.1, x :: r.2)
  | ns, xs => (ns ++ [f], xs ++ [v])
/-- the fields of the classes that are read and written plainly -/
abbrev OkF := Str → Str → Bool
def ClsF (K : PySem.W.Frag) (ok : OkF) : Prop := ∀ c f, ok c f = true → Cls K (He.ga K c) ∧ NoAttr K (He.ga K c) f
section
variable {K : PySem.W.Frag} {H : Hp} {r : List Addr} {st : Hs}
theorem ins_at (m : Mt K H r st) {x : IV} {v : V} {c : Str} {ns : List Str} {xs : List IV} (h : insOf st x = some (c, ns, xs)) (rv : RV K H r x v) : ∃ p dx fs, v = .ref p ∧ H p = some (.ins (He.ga K c) dx fs) ∧ fs.map (·.1) = ns ∧ RVs K H r xs (fs.map (·.2)) := by
  cases rv with
  | obj h1 n1 h2 n2 e1 e2 hs =>
    cases h
    subst e1 e2
    exact ⟨_, _, _, rfl, h1, rfl, hs⟩
  | @ref a p hp =>
    unfold insOf at h
    dsimp only at h
    split at h
    · rename_i c' ns' xs' k
      cases h
      obtain ⟨dx, fs, e1, e2, n2, e3, hs⟩ := m.at_ _ _ _ k hp
      exact ⟨p, dx, fs, rfl, e1, e3, hs⟩
    · cases h
  | _ => cases h
theorem fld_at {f : Str} : ∀ {fs : List (Str × V)} {xs : List IV} {x : IV}, RVs K H r xs (fs.map (·.2)) → fldOf f (fs.map (·.1)) xs = some x → ∃ v, fs.lookup f = some v ∧ RV K H r x v
  | [], xs, x, _, h => by
    cases xs <;> cases h
  | (n, v) :: fs, [], x, _, h => by cases h
  | (n, v) :: fs, y :: ys, x, .cons a b, h => by
    have h : (if n = f then some y else fldOf f (fs.map (·.1)) ys) = some x := h
    by_cases q : n = f
    · rw [if_pos (show n = f from q)] at h
      cases h
      subst q
      exact ⟨v, by simp [List.lookup], a⟩
    · rw [if_neg (show ¬ n = f from q)] at h
      obtain ⟨w, e, rw1⟩ := fld_at b h
      refine ⟨w, ?_, rw1⟩
      rw [List.lookup_cons]
      have : (f == n) = false := beq_false_of_ne (fun z => q z.symm)
      rw [this]
      exact e
theorem nolook {f : Str} : ∀ {fs : List (Str × V)}, f ∉ fs.map (·.1) → fs.lookup f = none
  | [], _ => rfl
  | (n, v) :: fs, h => by
    rw [List.lookup_cons]
    have : (f == n) = false := beq_false_of_ne fun z => h (by simp [z])
    rw [this]
    exact nolook fun z => h (by simp at z ⊢; exact .inr z)
end
/-! fields -/
def mFld (ok : OkF) (f : Str) (m : ME) : ME := fun env => bnd (m env) fun x st => match insOf st x with
  | some (c, ns, xs) => if ok c f = true then (match fldOf f ns xs with
    | some v => .ok v st
    | none => .no) else .no
  | none => .no
section
variable {X : Cx} {W : WX} {pos : Pos} {e : Expr} {m : ME} {f : Str}
theorem pem_fld {ok : OkF} (F : ClsF X.K ok) (he : PEm X W e m) (hb : attributeBase e f X.env (eval e X.env) = eval e X.env := by rfl) : PEm X W (.Attribute e f pos) (mFld ok f m) :=
  PE.weak (pe_fld he hb) fun σ H Q ⟨r, env, st, re, hm, h⟩ => ⟨r, env, st, re, hm, (Aft.split (rel := rV X.K) h).imp fun v H1 ⟨x, r1, st1, x1, m1, rv, h1⟩ => by
    cases k : insOf st1 x with
    | none => simp only [k] at h1; exact h1.elim
    | some t =>
      obtain ⟨c, ns, xs⟩ := t
      simp only [k] at h1
      by_cases q : ok c f = true
      · rw [if_pos q] at h1
        obtain ⟨p, dx, fs, rfl, e1, rfl, hs⟩ := ins_at m1 k rv
        cases k2 : fldOf f (fs.map (·.1)) xs with
        | none => rw [k2] at h1; exact h1.elim
        | some y =>
          rw [k2] at h1
          obtain ⟨w, l, rw1⟩ := fld_at hs k2
          obtain ⟨c1, c2⟩ := F c f q
          exact ⟨p, _, dx, fs, w, rfl, e1, c1, c2, l, h1 r1 H1 w Xt.refl m1 rw1⟩
      · rw [if_neg q] at h1; exact h1.elim⟩
end
/-! o.f = value -/
def sFldI (ok : OkF) (f : Str) (o v : ME) : MS := sE v fun y => sE o fun x env st => match x with
  | .ref a => match st[a]? with
    | some (.ins c ns xs) => if (ok c f && decide (ns.length < 1000)) = true then .nx env (st.set a (.ins c (putI f y ns xs).1 (putI f y ns xs).2)) else .no
    | _ => .no
  | _ => .no
section
variable {K : PySem.W.Frag} {H : Hp} {r : List Addr}
theorem put_at {f : Str} {y : IV} {v : V} (rv : RV K H r y v) : ∀ {fs : List (Str × V)} {xs : List IV}, RVs K H r xs (fs.map (·.2)) → (putF f v fs).map (·.1) = (putI f y (fs.map (·.1)) xs).1 ∧ RVs K H r (putI f y (fs.map (·.1)) xs).2 ((putF f v fs).map (·.2))
  | [], [], _ => ⟨rfl, .cons rv .nil⟩
  | (n, w) :: fs, x :: xs, .cons a b => by
    obtain ⟨h1, h2⟩ := put_at rv (f := f) b
    by_cases q : n = f
    · subst q
      have e : putF n v ((n, w) :: fs) = (n, v) :: fs := if_pos rfl
      rw [e]
      simp only [List.map_cons, putI, if_true]
      exact ⟨trivial, .cons rv b⟩
    · have e : putF f v ((n, w) :: fs) = (n, w) :: putF f v fs := if_neg q
      rw [e]
      simp only [List.map_cons, putI, if_neg q]
      exact ⟨by rw [h1], .cons a h2⟩
variable {X : Cx} {W : WX} {pos pos' : Pos} {o e : Expr} {mo me : ME} {f : Str}
theorem psm_fldI {ok : OkF} (F : ClsF X.K ok) (ho : PEm X W o mo) (he : PEm X W e me) (hs : swapsWith e (some (.Attribute o f pos')) pos.line X.env = pure false := by rfl) : PSm X W (.Assign [.Attribute o f pos'] e pos) (sFldI ok f mo me) :=
  PS.weak (ps_fld ho he hs) fun D σ H ⟨r, env, st, re, hm, h⟩ => ⟨r, env, st, re, hm, (AftS.exp (rel := rV X.K) re hm h).imp fun y' H1 ⟨y, r1, st1, x1, m1, ry, h1⟩ =>
    ⟨r1, env, st1, re.mono x1 hm, m1, (AftS.exp (rel := rV X.K) (re.mono x1 hm) m1 h1).imp fun x' H2 ⟨x, r2, st2, x2, m2, rx, h2⟩ => by
      cases x with
      | ref a =>
        dsimp only at h2
        split at h2
        · rename_i c ns xs k
          split at h2
          · rename_i q
            obtain ⟨q1, q2⟩ := Bool.and_eq_true_iff.mp q
            have q2 := of_decide_eq_true q2
            cases rx with
            | @ref _ p hp =>
            obtain ⟨dx, fs, e1, e2, n2, rfl, hs⟩ := m2.at_ _ _ _ k hp
            obtain ⟨c1, c2⟩ := F c f q1
            have ry2 := ry.mono x2 m1
            have W2 := Xt.write (o := .ins (He.ga X.K c) dx (putF f y' fs)) m2 hp
            obtain ⟨p1, p2⟩ := put_at ry2 (f := f) hs
            have ned : dx ≠ p := fun z => n2 (by rw [z]; exact List.mem_of_getElem? hp)
            exact ⟨p, _, dx, fs, rfl, e1, c1, c2, by simpa using q2, h2 r2 _ σ W2 (m2.write hp ⟨dx, putF f y' fs, upd_same, by rw [upd_ne ned]; exact e2, n2, p1, RVs.mono W2 m2 p2⟩) (((re.mono x1 hm).mono x2 m1).mono W2 m2)⟩
          · exact h2.elim
        · exact h2.elim
      | _ => exact h2.elim⟩⟩
end
/-! ### methods and properties -/
/-- a def of a class that is such a function -/
def CalM (P : Program) (w : World) (K : PySem.W.Frag) (mg : Str → Option Value) (base : Heap) (k : Nat) (c m : Str) (n : Nat) (mf : List IV → M IV) : Prop :=
  ∃ f fd ps, FnG P w K mg base k f fd ps mf ∧ ps.length = n ∧ Cls K (He.ga K c) ∧ Meth K (He.ga K c) m f ∧ Binds K fd ps []
def DefAtM (K : PySem.W.Frag) (c m q : Str) (t : Stmt) (ps : List Str) : Prop := ∃ f fd, Fun K m q t f fd ∧ Cls K (He.ga K c) ∧ Meth K (He.ga K c) m f ∧ Binds K fd ps []
section
variable {P : Program} {w : World} {K : PySem.W.Frag} {mg : Str → Option Value} {base : Heap} {k : Nat}
theorem calM_of {c m q : Str} {t : Stmt} {N ps : List Str} {b : MS} (D : DefAtM K c m q t ps) (S : FnScope N ps (defScope t))
    (hb : ∀ (f : Addr) (cd : Value) (A : Around) (fr : List PySem.Env) (s : Shared) (H : Hp) (E : XK), Bd k (bX P w K mg base N q t f cd A fr s H E) (fun cls d _ H' => E cls d H') → PSsm (bX P w K mg base N q t f cd A fr s H E) (fun cls d _ H' => E cls d H') (defBody t) b) :
    CalM P w K mg base (k + 1) c m ps.length (mDef N.length b) := by
  obtain ⟨f, fd, F, C, M, B⟩ := D
  exact ⟨f, fd, ps, fng_of F S (hb f), rfl, C, M, B⟩
end
/-- o.m(..) by the receiver's class -/
def mMet (alts : List (Str × (List IV → M IV))) (m : Str) (o : ME) (es : MA) : ME := fun env => bnd (o env) fun x => bnd (fun st => match insOf st x with
  | some (c, ns, _) => (match alts.lookup c with
    | some f => if m ∈ ns then .no else .ok f st
    | none => .no)
  | none => .no) fun f => bnd (es env) fun xs => runC f (x :: xs)
/-- e.f, a property, by the receiver's class -/
def mPrp (alts : List (Str × (List IV → M IV))) (e : ME) : ME := fun env => bnd (e env) fun x st => match insOf st x with
  | some (c, _, _) => (match alts.lookup c with
    | some f => (match runC f [x] st with
      | .ok v st' => .ok v st'
      | _ => .no)
    | none => .no)
  | none => .no
section
variable {X : Cx} {W : WX} {pos apos : Pos} {o e : Expr} {mo : ME} {es : List Expr} {ms : MA} {k n : Nat} {m : Str} {alts : List (Str × (List IV → M IV))}
/-- what the receiver is -/
theorem met_at {α β : Type} {rel : Hp → List Addr → α → β → Prop} {σ : L2.St} {r : List Addr} {H : Hp} {st : Hs} {x : IV} {v : V} {kf : (List IV → M IV) → M α} {Q : β → Hp → Prop} (hm : Mt X.K H r st) (rv : RV X.K H r x v)
    (h : Aft X W σ rel r H (bnd (fun st => match insOf st x with
      | some (c, ns, _) => (match alts.lookup c with
        | some f => if m ∈ ns then Rs.no else Rs.ok f st
        | none => Rs.no)
      | none => Rs.no) kf st) Q) : ∃ c f p dx fs, alts.lookup c = some f ∧ v = .ref p ∧ H p = some (.ins (He.ga X.K c) dx fs) ∧ fs.lookup m = none ∧ Aft X W σ rel r H (kf f st) Q := by
  unfold bnd at h
  cases q : insOf st x with
  | none => simp only [q] at h; exact h.elim
  | some t =>
    obtain ⟨c, ns, xs⟩ := t
    simp only [q] at h
    cases q2 : alts.lookup c with
    | none => simp only [q2] at h; exact h.elim
    | some f =>
      simp only [q2] at h
      by_cases q3 : m ∈ ns
      · simp only [if_pos q3] at h; exact h.elim
      · simp only [if_neg q3] at h
        obtain ⟨p, dx, fs, rfl, e1, rfl, _⟩ := ins_at hm q rv
        exact ⟨c, f, p, dx, fs, q2, rfl, e1, nolook q3, h⟩
theorem pem_met {pl : Sem Bool} (C : ∀ c f, alts.lookup c = some f → CalM X.prog X.w X.K X.mg X.base k c m n f) (hr : Room k X.A) (hgd : X.A.guards = some []) (hx : ∀ σ, PassesAt (L2.CX X.prog X.w) X σ (WE W σ)) (ho : PEm X W o mo) (ha : PAm X W (e :: es) ms) (hlen : LenA (e :: es).length ms) (hn : (e :: es).length + 1 = n := by rfl)
    (hst : starEach (e :: es) X.env = (false, eval e X.env) :: starEach es X.env := by rfl) (hpl : (backTo pos (starEach es X.env)).any (·.1) = false := by rfl)
    (ht : eval (.Call (.Attribute o m apos) (e :: es) [] pos) X.env = (do
      let ov ← eval o X.env
      standAt apos.atName
      let (g, first) ← holding [ov] (getMethod ov m pl)
      callWith pos g first (backTo pos (starEach (e :: es) X.env)) (backToKw pos (keywordEach [] X.env))) := by rfl) : PEm X W (.Call (.Attribute o m apos) (e :: es) [] pos) (mMet alts m mo ms) := by
  refine ⟨fun pins s σ H Q I h => ?_⟩
  obtain ⟨r, env, st, re, hm, h⟩ := h
  refine PySem.W.methodCall_KW (pl := pl) (thn (ho.run pins s σ H _ I ⟨r, env, st, re, hm, Aft.split (rel := rV X.K) h⟩) fun u s1 ⟨v, H1, I1, ru, x, r1, st1, x1, m1, rv, h1⟩ => ?_) ht
  obtain ⟨c, f, p, dx, fs, q, rfl, ea, l, h1⟩ := met_at m1 rv h1
  cases ru
  obtain ⟨g, fd, ps, F, hps, cl, mt, hb⟩ := C c f q
  refine getmeth_ok I1 ea cl mt l ?_
  have re1 := re.mono x1 hm
  have h2 : Aft X W σ (rVs X.K) r1 H1 (ms env st1) (fun vs H' => vs.length + 1 = ps.length ∧ spM X.K X.mg f (V.ref p :: vs) H' Q (WE W σ)) := by
    cases k1 : ms env st1 with
    | no =>
      have h1 : Aft X W σ (rV X.K) r1 H1 (bnd (ms env) (fun xs => runC f (x :: xs)) st1) Q := h1
      unfold bnd at h1
      rw [k1] at h1
      exact h1
    | ex a s2 =>
      have h1 : Aft X W σ (rV X.K) r1 H1 (bnd (ms env) (fun xs => runC f (x :: xs)) st1) Q := h1
      unfold bnd at h1
      rw [k1] at h1
      exact h1
    | ok xs s2 =>
      have h1 : Aft X W σ (rV X.K) r1 H1 (bnd (ms env) (fun xs => runC f (x :: xs)) st1) Q := h1
      unfold bnd at h1
      rw [k1] at h1
      refine fun r' H' vs x2 m2 rs => ⟨by rw [← rs.length, hlen _ _ _ _ k1, hn, hps], ?_⟩
      exact aft_sp (.cons (rv.mono x2 m1) rs) m2 (Aft.later h1 x2)
  refine PySem.W.callWith_K (first := [.ref p]) (h₀ := X.base) I.ok.mod.kin mt.kp (thn (ha.run pos pins s1 σ H1 _ I1 ⟨r1, env, st1, re1, m1, h2⟩) fun us s2 ⟨vs, H2, I2, rvs, hl, q2⟩ => ⟨I2.kIn, ?_⟩) hst hpl
  exact run_g (us := .ref p :: us) (vs := .ref p :: vs) F hr hgd hb (hx σ) I2 (.cons rfl rvs) (by rw [List.length_cons]; exact hl) q2
theorem pem_met0 {pl : Sem Bool} (C : ∀ c f, alts.lookup c = some f → CalM X.prog X.w X.K X.mg X.base k c m 1 f) (hr : Room k X.A) (hgd : X.A.guards = some []) (hx : ∀ σ, PassesAt (L2.CX X.prog X.w) X σ (WE W σ)) (ho : PEm X W o mo)
    (ht : eval (.Call (.Attribute o m apos) [] [] pos) X.env = (do
      let ov ← eval o X.env
      standAt apos.atName
      let (g, first) ← holding [ov] (getMethod ov m pl)
      callWith pos g first (backTo pos (starEach [] X.env)) (backToKw pos (keywordEach [] X.env))) := by rfl) : PEm X W (.Call (.Attribute o m apos) [] [] pos) (mMet alts m mo maN) := by
  refine ⟨fun pins s σ H Q I h => ?_⟩
  obtain ⟨r, env, st, re, hm, h⟩ := h
  refine PySem.W.methodCall_KW (pl := pl) (thn (ho.run pins s σ H _ I ⟨r, env, st, re, hm, Aft.split (rel := rV X.K) h⟩) fun u s1 ⟨v, H1, I1, ru, x, r1, st1, x1, m1, rv, h1⟩ => ?_) ht
  obtain ⟨c, f, p, dx, fs, q, rfl, ea, l, h1⟩ := met_at m1 rv h1
  cases ru
  obtain ⟨g, fd, ps, F, hps, cl, mt, hb⟩ := C c f q
  refine getmeth_ok I1 ea cl mt l ?_
  exact PySem.W.callWith_K0 (first := [.ref p]) I1.kIn mt.kp (run_g (us := [.ref p]) (vs := [.ref p]) F hr hgd hb (hx σ) I1 (.cons rfl .nil) (by rw [hps]; rfl) (aft_sp (.cons rv .nil) m1 h1))
/-! properties -/
def CalP (P : Program) (w : World) (K : PySem.W.Frag) (mg : Str → Option Value) (base : Heap) (k : Nat) (c f : Str) (mf : List IV → M IV) : Prop :=
  ∃ g p fd ps, FnG P w K mg base k g fd ps mf ∧ ps.length = 1 ∧ Cls K (He.ga K c) ∧ PropOf K (He.ga K c) f p g ∧ Binds K fd ps []
theorem pem_prp {f : Str} (C : ∀ c g, alts.lookup c = some g → CalP X.prog X.w X.K X.mg X.base k c f g) (hr : Room (k + 1) X.A) (hgd : X.A.guards = some []) (ho : PEm X W e mo) (hb : attributeBase e f X.env (eval e X.env) = eval e X.env := by rfl) : PEm X W (.Attribute e f pos) (mPrp alts mo) := by
  refine ⟨fun pins s σ H Q I h => ?_⟩
  obtain ⟨r, env, st, re, hm, h⟩ := h
  refine attr_of hb (thn (ho.run pins s σ H _ I ⟨r, env, st, re, hm, Aft.split (rel := rV X.K) h⟩) fun u s1 ⟨v, H1, I1, ru, x, r1, st1, x1, m1, rv, h1⟩ => ?_)
  cases q : insOf st1 x with
  | none => simp only [q] at h1; exact h1.elim
  | some t =>
    obtain ⟨c, ns, xs⟩ := t
    simp only [q] at h1
    cases q2 : alts.lookup c with
    | none => simp only [q2] at h1; exact h1.elim
    | some mf =>
      simp only [q2] at h1
      obtain ⟨p, dx, fs, rfl, ea, rfl, _⟩ := ins_at m1 q rv
      cases ru
      obtain ⟨g, pp, fd, ps, F, hps, cl, po, hbi⟩ := C c mf q2
      have sp0 : spM X.K X.mg mf [V.ref p] H1 Q (WE (fun _ _ _ _ => False) σ) := by
        cases q3 : runC mf [x] st1 with
        | no => rw [q3] at h1; exact h1.elim
        | ex a s2 => rw [q3] at h1; exact h1.elim
        | ok y s2 =>
          rw [q3] at h1
          refine aft_sp (W := fun _ _ _ _ => False) (.cons rv .nil) m1 ?_
          rw [q3]
          exact h1
      obtain ⟨mA, O, _, _, _, _⟩ := ins_get I1.hok ea
      obtain ⟨od, J, _⟩ := O.look
      obtain ⟨rest, hrec⟩ := po.rec_
      have I2 := I1.tok (s1.toks + 1)
      have hc : (PySem.W.clsIn X.K (He.ga X.K c)).isSome = true := by
        obtain ⟨cd, hc, _⟩ := PySem.W.any_some cl.hd
        rw [hc]
        rfl
      have bt := hbi { s1 with toks := s1.toks + 1 } [Value.ref p] I2.kIn (by rw [List.append_nil, hps]; rfl)
      rw [List.append_nil] at bt
      refine PySem.W.get_bind I1.kIn J (PySem.W.plainGet_of (cl.get f)).1 (PySem.W.findObj_data hc po.at_ po.get po.tak) (PySem.W.plainGet_of (cl.get f)).2 (wpAny_call (PySem.W.prop_get (s := { s1 with toks := s1.toks + 1 }) I1.kIn hrec ?_))
      refine codeAny_mono (F X.A.in1 X.stack { s1 with toks := s1.toks + 1 } H1 ⟨[.ref p], []⟩ [.ref p] [.ref p] Q _ hr.in1 hgd I2.env0.in1 bt (.cons rfl .nil) (by rw [hps]; rfl) sp0) fun res s' z => ?_
      match res, z with
      | .error u, z =>
        obtain ⟨_, _, _, _, _, _, _, _, _, _, _, _, z⟩ := z
        exact z.elim
      | .ok (.ret u), z =>
        obtain ⟨v, H', I3, rv3, q3⟩ := I2.after z
        exact wpAny_of_eq (PySem.W.handedOut_of (handed_of rv3)) ⟨v, H', I3, rv3, q3⟩
      | .ok .next, z => exact z.elim
      | .ok .brk, z => exact z.elim
      | .ok .cont, z => exact z.elim
end
/-! ### making an instance -/
theorem own_out {K : PySem.W.Frag} {H : Hp} {r : List Addr} {st : Hs} (m : Mt K H r st) {p q : Addr} (h : H p = some (.own q)) : p ∉ r := fun z => by
  obtain ⟨i, hi, ei⟩ := List.getElem_of_mem z
  have hi' : i < st.length := by rw [← m.len]; exact hi
  have o := m.at_ i st[i] p (by simp [hi']) (by simp [hi, ei])
  cases k : st[i] with
  | lst xs => rw [k] at o; obtain ⟨vs, e1, _⟩ := o; rw [h] at e1; cases e1
  | dct kvs => rw [k] at o; obtain ⟨_, e1, _⟩ := o; rw [h] at e1; cases e1
  | ins c ns xs => rw [k] at o; obtain ⟨_, _, e1, _⟩ := o; rw [h] at e1; cases e1
/-- what a class's call gives: a frozen instance where nothing else may hold it, else one of the small heap -/
def runMk (c : Str) (f : List IV → M IV) (xs : List IV) (st : Hs) : Rs IV := if clIs xs = true then
    match f (.ref 0 :: xs) [.ins c [] []] with
    | .ok .non st' => (match (st'[0]? : Option Sm.IO) with
      | some (.ins c' ns ys) => if (decide (c' = c) && (clIs ys && (noIns st || plIs ys))) = true then .ok (.obj c ns ys) st else .no
      | _ => .no)
    | .ex e st' => if (clIs (e.fs.map (·.2)) && (noIns st || plIs (e.fs.map (·.2)))) = true then .ex e st else .no
    | _ => .no
  else match f (.ref st.length :: xs) (st ++ [.ins c [] []]) with
    | .ok .non st' => .ok (.ref st.length) st'
    | .ex e st' => .ex e st'
    | _ => .no
section
variable {X : Cx} {W : WX} {pos p : Pos}
theorem mk_sp {σ : L2.St} {H : Hp} {Q : VK} {r : List Addr} {xs : List IV} {vs : List V} {st : Hs} {c : Str} {mf : List IV → M IV} (rs : RVs X.K H r xs vs) (m : Mt X.K H r st) (h : Aft X W σ (rV X.K) r H (runMk c mf xs st) Q) :
    ∀ x dx, H x = none → H dx = none → dx ≠ x → spM X.K X.mg mf (.ref x :: vs) (upd (upd H dx (.own x)) x (.ins (He.ga X.K c) dx [])) (fun v H2 => v = .non ∧ Q (.ref x) H2) (WE W σ) := by
  intro x dx hx hdx ne
  have nx : x ∉ r := m.outD hx
  have ndx : dx ∉ r := m.outD hdx
  have ha : ∀ {q : Addr} {o : HO}, H q = some o → (upd (upd H dx (.own x)) x (.ins (He.ga X.K c) dx [])) q = some o := fun {q o} e => by
    rw [upd_ne (ne_of_none e hx), upd_ne (ne_of_none e hdx)]; exact e
  have edx : (upd (upd H dx (.own x)) x (.ins (He.ga X.K c) dx [])) dx = some (.own x) := by rw [upd_ne ne, upd_same]
  have x1 : Xt r H (r ++ [x]) (upd (upd H dx (.own x)) x (.ins (He.ga X.K c) dx [])) := ⟨⟨[x], rfl⟩, fun q o e n => ⟨ha e, fun z => by
    rw [List.mem_append, List.mem_singleton] at z
    exact z.elim n (ne_of_none e hx)⟩⟩
  have rs1 := rs.mono x1 m
  unfold runMk at h
  by_cases cl : clIs xs = true
  · rw [if_pos cl] at h
    have m0 : Mt X.K (upd (upd H dx (.own x)) x (.ins (He.ga X.K c) dx [])) [x] [.ins c [] []] := ⟨rfl, by simp, fun i o q e1 e2 => by
      cases i with
      | zero =>
        simp at e1 e2
        subst e1 e2
        exact ⟨dx, [], upd_same, edx, by simp [ne], rfl, .nil⟩
      | succ i => simp at e1⟩
    refine ⟨[x], .ref 0 :: xs, [.ins c [] []], .cons (.ref rfl) (RVs.clW (r := r ++ [x]) (fun q u _ _ n z => n (List.mem_append_right _ z)) rs1 cl), m0, ?_⟩
    -- what stands behind the run
    have back : ∀ {r' : List Addr} {H' : Hp}, Xt [x] (upd (upd H dx (.own x)) x (.ins (He.ga X.K c) dx [])) r' H' → Xt r H r H' ∧ Mt X.K H' r st := fun {r' H'} x2 => by
      have keep : ∀ q o, H q = some o → H' q = some o := fun q o e => (x2.fr q o (ha e) (by rw [List.mem_singleton]; exact ne_of_none e hx)).1
      have x3 : Xt r H r H' := ⟨⟨[], by simp⟩, fun q o e n => ⟨keep q o e, n⟩⟩
      refine ⟨x3, m.len, m.nd, fun i o q e1 e2 => ?_⟩
      have w := m.at_ i o q e1 e2
      refine w.mono x3 m ?_
      cases o with
      | lst ys => obtain ⟨us, e, _⟩ := w; rw [e]; exact keep _ _ e
      | dct kvs => obtain ⟨dk, e, _⟩ := w; rw [e]; exact keep _ _ e
      | ins c' ns ys => obtain ⟨d', fs, e, _⟩ := w; rw [e]; exact keep _ _ e
    cases q : mf (.ref 0 :: xs) [.ins c [] []] with
    | no => rw [q] at h; exact h
    | ex e st' =>
      rw [q] at h
      dsimp only at h
      split at h
      · rename_i g
        have g := Bool.and_eq_true_iff.mp g
        refine fun r' H' cls d x2 m2 hx2 => ?_
        obtain ⟨x3, m3⟩ := back x2
        refine h r H' cls d x3 m3 ⟨hx2.1, ?_⟩
        have h2 := hx2.2
        cases e1 : e.fs with
        | nil => rw [e1] at h2; exact h2
        | cons y ys =>
          rw [e1] at h2 g
          obtain ⟨dd, ws, g1, g2, g3, g4⟩ := h2
          exact ⟨dd, ws, g1, g2, g3, g4.up m3 g.1 g.2⟩
      · exact h.elim
    | ok v st' =>
      rw [q] at h
      cases v with
      | non =>
        dsimp only at h
        split at h
        · rename_i c' ns ys k
          split at h
          · rename_i g
            obtain ⟨g0, g1⟩ := Bool.and_eq_true_iff.mp g
            have g2 := Bool.and_eq_true_iff.mp g1
            have g0 : c' = c := of_decide_eq_true g0
            subst g0
            refine fun r' H' v x2 m2 rv => ?_
            cases rv
            obtain ⟨x3, m3⟩ := back x2
            have r0 : r'[0]? = some x := x2.get (show [x][0]? = some x from rfl)
            obtain ⟨dx', fs, e1, e2, n2, e3, hs⟩ := m2.at_ 0 _ x k r0
            exact ⟨rfl, h r H' _ x3 m3 (.obj e1 nx e2 (own_out m3 e2) e3 rfl (hs.up m3 g2.1 g2.2))⟩
          · exact h.elim
        · exact h.elim
      | _ => exact h.elim
  · rw [if_neg cl] at h
    have m1 : Mt X.K (upd (upd H dx (.own x)) x (.ins (He.ga X.K c) dx [])) (r ++ [x]) (st ++ [.ins c [] []]) := by
      have ma := m.aside (o := .own x) hdx
      have hx' : (upd H dx (.own x)) x = none := by rw [upd_ne ne.symm]; exact hx
      refine ma.new (u := .ins c [] []) hx' ⟨dx, [], upd_same, edx, fun z => ?_, rfl, .nil⟩
      rw [List.mem_append, List.mem_singleton] at z
      exact z.elim ndx ne
    refine ⟨r ++ [x], .ref st.length :: xs, st ++ [.ins c [] []], .cons (RV.last m) rs1, m1, ?_⟩
    cases q : mf (.ref st.length :: xs) (st ++ [.ins c [] []]) with
    | no => rw [q] at h; exact h
    | ex e st' =>
      rw [q] at h
      exact fun r' H' cls d x2 m2 hx2 => h r' H' cls d (x1.trans x2) m2 hx2
    | ok v st' =>
      rw [q] at h
      cases v with
      | non =>
        refine fun r' H' v x2 m2 rv => ?_
        cases rv
        exact ⟨rfl, h r' H' _ (x1.trans x2) m2 (.ref (x2.get (by rw [← m.len]; simp)))⟩
      | _ => exact h.elim
/-- a class of the module that can be made so -/
def CalC (P : Program) (w : World) (K : PySem.W.Frag) (mg : Str → Option Value) (base : Heap) (k : Nat) (c : Str) (n : Nat) (ks : List Str) (gI : List IV → List IV → List IV) (mf : List IV → M IV) : Prop :=
  ∃ f fd ps g gV, FnG P w K mg base k f fd ps mf ∧ Mk K (He.ga K c) f ∧ mg c = some (.ref (He.ga K c)) ∧ KBn K fd ps (n + 1) ks g gV ∧
    (∀ (H : Hp) (r : List Addr) (v : V) (xs ys : List IV) (vs zs : List V), RVs K H r xs vs → RVs K H r ys zs → xs.length = n → ys.length = ks.length → ∃ us, gV (v :: vs) zs = v :: us ∧ RVs K H r (gI xs ys) us ∧ us.length + 1 = ps.length)
def mMk (c : Str) (f : List IV → M IV) (gI : List IV → List IV → List IV) (es ks : MA) : ME := fun env => bnd (es env) fun xs => bnd (ks env) fun ys => runMk c f (gI xs ys)
abbrev PKm (X : Cx) (W : WX) (kws : List Keyword) (m : MA) : Prop := PK X kws (tA X W m)
theorem PK.weak {kws : List Keyword} {t t' : TA} (h : PK X kws t) (i : ∀ σ H Q, t' σ H Q → t σ H Q) : PK X kws t' := ⟨fun pos pins s σ H Q I q => h.run pos pins s σ H Q I (i σ H Q q)⟩
theorem pkm_nil : PKm X W [] maN := PK.weak pk_nil fun σ H Q ⟨r, env, st, he, hm, h⟩ => h r H [] Xt.refl hm .nil
theorem pkm_cons {nm : Option Str} {e : Expr} {kpos : Pos} {kws : List Keyword} {me : MA} {m1 : ME} (ha : PEm X W e m1) (hr : PKm X W kws me) : PKm X W (⟨nm, e, kpos⟩ :: kws) (maC m1 me) :=
  PK.weak (pk_cons ha hr) fun σ H Q ⟨r, env, st, he, hm, h⟩ => ⟨r, env, st, he, hm, (h.split (rel := rV X.K)).imp fun v H1 ⟨x, r1, st1, x1, m1, rv, h1⟩ =>
    ⟨r1, env, st1, he.mono x1 hm, m1, (h1.split (rel := rVs X.K)).imp fun vs H2 ⟨xs, r2, st2, x2, m2, rvs, h2⟩ => h2 r2 H2 _ Xt.refl m2 (.cons (rv.mono x2 m1) rvs)⟩⟩
theorem make_guards {A : Around} {C : Addr} {us : List Value} {kw : List (Str × Value)} : (A.under (.builtin "type.__call__" ⟨.ref C :: us, kw⟩)).guards = A.guards := by
  first
    | rfl
    | simp [Around.under, Code.weight, Code.isCreation, Code.isGuard, Code.isCaller, Code.frames, Code.isFrame, guardIds]
variable {k n : Nat} {c : Str} {ks : List Str} {gI : List IV → List IV → List IV} {mf : List IV → M IV} {e : Expr} {es : List Expr} {kws : List Keyword} {ms mk : MA}
theorem run_mk {pins : List (Addr × Obj)} {σ : L2.St} {H : Hp} {s : Shared} {Q : VK} {us ws : List Value} {vs zs : List V} {r : List Addr} {xs ys : List IV} {st : Hs} (C : CalC X.prog X.w X.K X.mg X.base k c n ks gI mf) (hr : Room (k + 1) X.A) (hgd : X.A.guards = some []) (hx : PassesAt (L2.CX X.prog X.w) X σ (WE W σ))
    (I : Inv X pins σ H s) (rv : Vals vs us) (rz : Vals zs ws) (m : Mt X.K H r st) (rx : RVs X.K H r xs vs) (ry : RVs X.K H r ys zs) (l1 : xs.length = n) (l2 : ys.length = ks.length) (h : Aft X W σ (rV X.K) r H (runMk c mf (gI xs ys) st) Q) :
    wpAny (model X.prog X.w) X.A (call (.ref (He.ga X.K c)) us (ks.zip ws)) (EP X pins σ Q) X.xe s := by
  obtain ⟨f, fd, ps, g, gV, F, M, _, hb, hg⟩ := C
  obtain ⟨vs2, e2, rs2, l3⟩ := hg H r (V.ref (s.heap.objs.size + 1)) xs ys vs zs rx ry l1 l2
  have hsp := mk_sp rs2 m h (s.heap.objs.size + 1) s.heap.objs.size (I.hok.fresh (Nat.le_succ _)) (I.hok.fresh (Nat.le_refl _)) (Nat.ne_of_lt (Nat.lt_succ_self _))
  have I2 := Inv.made (C := He.ga X.K c) I
  have rb : Vals (V.ref (s.heap.objs.size + 1) :: vs) (Value.ref (s.heap.objs.size + 1) :: us) := .cons rfl rv
  have rg := hb.rel rb rz
  rw [e2] at rg
  have n1 : (Value.ref (s.heap.objs.size + 1) :: us).length = n + 1 := by rw [List.length_cons, ← rv.length, ← rx.length, l1]
  have n2 : ws.length = ks.length := by rw [← rz.length, ← ry.length, l2]
  refine wpAny_call (make_map (f := f) I.kIn M.makes M.init (beq_iff_eq.mp M.fn) (codeAny_mono (F _ X.stack _ _ ⟨Value.ref (s.heap.objs.size + 1) :: us, ks.zip ws⟩ (g (Value.ref (s.heap.objs.size + 1) :: us) ws) (V.ref (s.heap.objs.size + 1) :: vs2) _ _ (hr.make _ us (ks.zip ws)) (make_guards.trans hgd)
    (I2.env0.make _ us (ks.zip ws)) (hb.to _ _ ws I2.kIn n1 n2) rg (by rw [List.length_cons]; exact l3) hsp) fun res s' z => ?_))
  match res, z with
  | .error u, z => exact hx pins _ _ u s' I2 z
  | .ok (.ret u), z =>
    obtain ⟨v, H', I3, rv3, ev, q3⟩ := I2.after z
    subst ev
    exact ⟨rv3, ⟨V.ref (s.heap.objs.size + 1), H', I3, rfl, q3⟩⟩
  | .ok .next, z => exact z.elim
  | .ok .brk, z => exact z.elim
  | .ok .cont, z => exact z.elim
theorem mk_split {σ : L2.St} {H : Hp} {r : List Addr} {env : Env} {st : Hs} {Q : VK} (l1 : LenA n ms) (l2 : LenA ks.length mk) (re : REnv X.K H r env σ) (hm : Mt X.K H r st) (h : Aft X W σ (rV X.K) r H (mMk c mf gI ms mk env st) Q) :
    Aft X W σ (rVs X.K) r H (ms env st) fun vs H1 => tA X W mk σ H1 fun zs H2 => ∃ r2 xs ys st2, Mt X.K H2 r2 st2 ∧ RVs X.K H2 r2 xs vs ∧ RVs X.K H2 r2 ys zs ∧ xs.length = n ∧ ys.length = ks.length ∧ Aft X W σ (rV X.K) r2 H2 (runMk c mf (gI xs ys) st2) Q := by
  unfold mMk bnd at h
  cases q : ms env st with
  | no => rw [q] at h; exact h
  | ex a s2 => rw [q] at h; exact h
  | ok xs s2 =>
    rw [q] at h
    refine fun r1 H1 vs x1 m1 rs => ⟨r1, env, s2, re.mono x1 hm, m1, ?_⟩
    have h := Aft.later h x1
    dsimp only at h
    cases q2 : mk env s2 with
    | no => rw [q2] at h; exact h
    | ex a s3 => rw [q2] at h; exact h
    | ok ys s3 =>
      rw [q2] at h
      exact fun r2 H2 zs x2 m2 rz => ⟨r2, xs, ys, s3, m2, rs.mono x2 m1, rz, l1 _ _ _ _ q, l2 _ _ _ _ q2, Aft.later h x2⟩
/-- C(e, .., k = v, ..) -/
theorem pem_mkK (C : CalC X.prog X.w X.K X.mg X.base k c n ks gI mf) (hr : Room (k + 1) X.A) (hgd : X.A.guards = some []) (hx : ∀ σ, PassesAt (L2.CX X.prog X.w) X σ (WE W σ)) (ha : PAm X W (e :: es) ms) (hkw : PKm X W kws mk) (l1 : LenA n ms) (l2 : LenA ks.length mk) (hg : Gl X c)
    (hall : (backToKw pos (keywordEach kws X.env)).all (·.1.isSome) = true := by rfl) (hks : (backToKw pos (keywordEach kws X.env)).filterMap (·.1) = ks := by rfl) (hdb : (c == ("__debug__" : Str)) = false := by decide)
    (he : starEach (e :: es) X.env = (false, eval e X.env) :: starEach es X.env := by rfl) (hpl : ((backTo pos (starEach (e :: es) X.env)).any (·.1) || (backToKw pos (keywordEach kws X.env)).any (·.1.isNone)) = false := by rfl) :
    PEm X W (.Call (.Name c p) (e :: es) kws pos) (mMk c mf gI ms mk) := by
  refine ⟨fun pins s σ H Q I ⟨r, env, st, re, hm, h⟩ => ?_⟩
  obtain ⟨M, mC⟩ : (∃ f, Mk X.K (He.ga X.K c) f) ∧ X.mg c = some (.ref (He.ga X.K c)) := by
    obtain ⟨f, fd, ps, g, gV, F, M, mC, _⟩ := id C
    exact ⟨⟨f, M⟩, mC⟩
  obtain ⟨f, M⟩ := M
  refine wpAny_Call_Name_kw (ld_glob I hg mC ?_ hdb)
  refine PySem.W.callWith_KW (h₀ := X.base) I.ok.mod.kin M.kp hall (thn (ha.run pos pins s σ H _ I ⟨r, env, st, re, hm, mk_split l1 l2 re hm h⟩) fun us s1 ⟨vs, H1, I1, rv, q⟩ => ?_) hpl he
  refine thn (hkw.run pos pins s1 σ H1 _ I1 q) fun ws s2 ⟨zs, H2, I2, rz, r2, xs, ys, st2, m2, rx, ry, e1, e2, h2⟩ => ⟨I2.kIn, ?_⟩
  rw [hks]
  exact run_mk C hr hgd (hx σ) I2 rv rz m2 rx ry e1 e2 h2
/-- C(e, ..) -/
theorem pem_mk (C : CalC X.prog X.w X.K X.mg X.base k c n [] gI mf) (hr : Room (k + 1) X.A) (hgd : X.A.guards = some []) (hx : ∀ σ, PassesAt (L2.CX X.prog X.w) X σ (WE W σ)) (ha : PAm X W (e :: es) ms) (l1 : LenA n ms) (hg : Gl X c) (hdb : (c == ("__debug__" : Str)) = false := by decide)
    (he : starEach (e :: es) X.env = (false, eval e X.env) :: starEach es X.env := by rfl) (hpl : (backTo pos (starEach es X.env)).any (·.1) = false := by rfl) : PEm X W (.Call (.Name c p) (e :: es) [] pos) (mMk c mf gI ms maN) := by
  refine ⟨fun pins s σ H Q I ⟨r, env, st, re, hm, h⟩ => ?_⟩
  obtain ⟨M, mC⟩ : (∃ f, Mk X.K (He.ga X.K c) f) ∧ X.mg c = some (.ref (He.ga X.K c)) := by
    obtain ⟨f, fd, ps, g, gV, F, M, mC, _⟩ := id C
    exact ⟨⟨f, M⟩, mC⟩
  obtain ⟨f, M⟩ := M
  refine wpAny_Call_Name_kw (ld_glob I hg mC ?_ hdb)
  refine PySem.W.callWith_K (h₀ := X.base) I.ok.mod.kin M.kp (thn (ha.run pos pins s σ H _ I ⟨r, env, st, re, hm, mk_split (ks := []) l1 len_nil re hm h⟩) fun us s1 ⟨vs, H1, I1, rv, q⟩ => ⟨I1.kIn, ?_⟩) he hpl
  obtain ⟨r1, env1, st1, re1, m1, q⟩ := q
  obtain ⟨r2, xs, ys, st2, m2, rx, ry, e1, e2, h2⟩ := q r1 H1 [] Xt.refl m1 .nil
  exact run_mk C hr hgd (hx σ) I1 rv .nil m2 rx ry e1 e2 h2
end
end Sm

set_option Elab.async false
set_option linter.all false
set_option maxRecDepth 100000
set_option maxHeartbeats 4000000
namespace Sm
open L2 PySem PySem.Spec
/-! ### sets of ints, laid by a comprehension and sorted at once -/
/-- a kind of set: what is tracked, how one more comes in -/
structure SetKd (X : Cx) where
  α : Type
  ho : World → Addr → α → HO
  z0 : α
  put : V → α → α → Prop
  new : ∀ (P : Program) (w : World) (H : Hp) (h : Heap), ObjOk P w H (h.push { cls := .type "set", dict := none, data := .set #[] 0 (.fresh 0 0 (!w.params.followText "set-order")) }) h.objs.size (ho w h.objs.size z0)
  add : ∀ (X' : Cx) (pins : List (Addr × Obj)) (σ : L2.St) (H : Hp) (s : Shared) (E : Value → Shared → Prop) (D : Addr) (z z' : α) (y : V) (u : Value) (Q : Value → Shared → Prop), Inv X' pins σ H s → H D = some (ho X'.w D z) → RelV y u → put y z z' →
    (∀ s', Inv X' pins σ (upd H D (ho X'.w D z')) s' → Q .none s') → wpAny (model X'.prog X'.w) X'.A (call (.builtin "set.add") [.ref D, u]) Q E s
/-- the ints that came, and how many at most -/
def SetRO (w : World) (a : Addr) (S : Int → Bool) (n : Nat) : HO := .ext fun h => SetR w h a S n
theorem setRO_new {w : World} {P : Program} {H : Hp} {h : Heap} {a : Addr} {S : Int → Bool} {n : Nat} (R : SetR w h a S n) : ObjOk P w H h a (SetRO w a S n) := by
  have ⟨o, _, _, _, ho, _⟩ := R
  exact ⟨R, ⟨o, ho⟩, fun h1 h2 p k => SetR.at p k⟩
def intKd (X : Cx) : SetKd X where
  α := (Int → Bool) × Nat
  ho := fun w a z => SetRO w a z.1 z.2
  z0 := (fun _ => false, 0)
  put := fun y z z' => ∃ c, y = .int c ∧ z.2 + 1 < scanBound ∧ z' = (fun j => z.1 j || decide (j = c), if z.1 c = true then z.2 else z.2 + 1)
  new := fun P w H h => setRO_new (setR_fresh w)
  add := fun X' pins σ H s E D z z' y u Q I hD r hp h => by
    obtain ⟨c, rfl, room, rfl⟩ := hp
    obtain ⟨tk, rfl⟩ := r
    have R : SetR X'.w s.heap D z.1 z.2 := (I.hok D _ hD).1
    refine setR_add R room fun h' sb new => ?_
    have he : ∃ u, h'.get? D = some u := by
      have ⟨o, _, _, _, ho, _⟩ := new
      exact ⟨o, ho⟩
    exact h _ (I.write (e := D) (t' := s.toks + 1) (by rw [hD]; trivial) (.inl rfl) (fun b u hb hu => (sb.2 b hb).trans hu) he (setRO_new new))
section
variable {X : Cx}
/-- a set's comprehension: wi walks, g takes, tt tests, te gives -/
def tSk (k : SetKd X) (w : World) (wi : TI) (g : TG) (tt : TT) (te : TE) (vs : List Nat) : TE := fun σ H Q => wi σ H fun J H1 => ∀ D, H1 D = none → ∃ W : Nat → Nat → Hp → Prop, (∃ m, W 0 m (upd H1 D (k.ho w D k.z0))) ∧ ∀ i m H, W i m H →
  (J.stop i H ∧ Q (.ref D) H) ∨ (J.go i H ∧ ∃ Nx : Hp → Prop, (∀ H', Nx H' → ∃ m', m' < m ∧ W (i + 1) m' H') ∧ ∀ x H', J.yld i H x H' → g x (wipe σ vs) H' fun σ2 H2 => wipe σ2 vs = wipe σ vs ∧ tt σ2 H2 fun b H3 =>
    if b = true then te σ2 H3 fun y H4 => ∃ z z', H4 D = some (k.ho w D z) ∧ k.put y z z' ∧ Nx (upd H4 D (k.ho w D z')) else Nx H3)
open PpSet PyProof.Rows in
/-- the comprehension, whatever the set's kind -/
theorem pe_sk {elt tg iter : Expr} {ifs : List Expr} {scope : Scope} {own : List (Str × Nat)} {pos : Pos} {wi : TI} {g : TG} {tt : TT} {te : TE} (kd : SetKd X) (hc : X.calm = true) (hN : X.N.Nodup) (hi : PI X tg iter wi) (ok : BlkOk X.N X.env.scope scope own)
    (hg : ∀ (s : Shared) (H : Hp) (C : Addr) (cl : List (Str × Addr)) (fp : List Addr), PG (X.blk s H scope (compEnvC scope cl C X.env) fp) tg g) (ht : ∀ (s : Shared) (H : Hp) (C : Addr) (cl : List (Str × Addr)) (fp : List Addr), PTs (X.blk s H scope (compEnvC scope cl C X.env) fp) ifs tt)
    (he : ∀ (s : Shared) (H : Hp) (C : Addr) (cl : List (Str × Addr)) (fp : List Addr), PE (X.blk s H scope (compEnvC scope cl C X.env) fp) elt te) (hs : ∀ x, foldedSetIterable iter X.env x = pure x := by intro _; rfl) :
    PE X (.SetComp elt [⟨tg, iter, ifs, 0⟩] scope pos) (tSk kd X.w wi g tt te (own.map (·.2))) := by
  refine ⟨fun pins s σ H Q I h => ?_⟩
  rw [eval_SetComp]
  have hfree : ∀ y ∈ scope.names, y.2 = .free → ∃ c, X.env.cells.lookup y.1 = some c := fun y hy e => (ok.free y hy e).elim (fun k => I.ok.has _ (.inl k)) fun k => I.ok.has _ (.inr k)
  refine wpAny_comprehension_free (use := none) rfl hs (closure_ok hfree) ok.kind (fun y hy e => by rw [ok.uniq y hy, e])
    (thn (hi.run pins s σ H _ I h) fun xv s1 hx => thn hx fun itv s2 h2 => ?_)
  obtain ⟨it, fp, tn, J, H2, rfl, I2, T, st2, f2, q⟩ := h2
  refine newSet_ok (newEnv_comp ?_)
  have hDn : H2 s2.heap.objs.size = none := I2.hok.fresh (Nat.le_refl _)
  obtain ⟨W, ⟨m0, w0⟩, turn⟩ := q _ hDn
  have nw := kd.new X.prog X.w (upd H2 s2.heap.objs.size (kd.ho X.w s2.heap.objs.size kd.z0)) s2.heap
  generalize hh3 : s2.heap.push { cls := .type "set", dict := none, data := .set #[] 0 (.fresh 0 0 (!X.w.params.followText "set-order")) } = h3 at nw
  have I3 := I2.laid (h' := h3) (t' := s2.toks) (fun b o e => by rw [← hh3]; exact Heap.get?_push_of_some _ e) (Nat.le_refl _) nw
  have kp : ∀ b o, s2.heap.get? b = some o → h3.get? b = some o := fun b o e => by rw [← hh3]; exact Heap.get?_push_of_some _ e
  generalize hD : s2.heap.objs.size = D at *
  generalize hH3 : upd H2 D (kd.ho X.w D kd.z0) = H3 at *
  have f3 : ∀ b ∈ fp, FpOk X pins H3 b ∧ b < h3.objs.size := fun b hb => by
    obtain ⟨o, e, _⟩ := T.obj _ _ st2 b hb
    have hlt := Heap.lt_size e
    refine ⟨⟨?_, (f2 b hb).2⟩, Heap.lt_size (kp _ _ e)⟩
    rw [← hH3, upd_ne (by rw [← hD]; exact Nat.ne_of_lt hlt)]
    exact (f2 b hb).1
  have st3 : tn 0 h3 := T.keep _ _ _ st2 fun b _ o e => kp _ _ e
  have I4 := block_start I3 ok hN f3
  have pg := hg { s2 with heap := h3 } H3 h3.objs.size (cellsFrom (h3.objs.size + 1) scope.names (cloFrom X.env.cells scope.names [])) fp
  have pt := ht { s2 with heap := h3 } H3 h3.objs.size (cellsFrom (h3.objs.size + 1) scope.names (cloFrom X.env.cells scope.names [])) fp
  have pe := he { s2 with heap := h3 } H3 h3.objs.size (cellsFrom (h3.objs.size + 1) scope.names (cloFrom X.env.cells scope.names [])) fp
  show codeAny _ _ (.compStart (.SetComp elt [⟨tg, iter, ifs, 0⟩] scope pos) 0 (.ref it) (.ref D) (compEnvC scope (cellsFrom (h3.objs.size + 1) scope.names (cloFrom X.env.cells scope.names [])) h3.objs.size X.env)) (compPost (model X.prog X.w) X.A X.xe none (EP X pins σ Q) (.ref D) h3.objs.size) { s2 with heap := pushCells (h3.push { cls := .type "dict", data := .dict #[] }) scope.names }
  generalize hce : compEnvC scope (cellsFrom (h3.objs.size + 1) scope.names (cloFrom X.env.cells scope.names [])) h3.objs.size X.env = ce at I4 pg pt pe ⊢
  have cL : ce.locals = h3.objs.size := by subst hce; rfl
  generalize hs4 : ({ s2 with heap := pushCells (h3.push { cls := .type "dict", data := .dict #[] }) scope.names } : Shared) = s4 at I4 ⊢
  have st4 : tn 0 s4.heap := T.keep _ _ _ st3 fun b _ o e => by rw [← hs4]; exact pushCells_keeps _ _ _ _ (Heap.get?_push_of_some _ e)
  have stat : ∀ {σ' : L2.St} {H' : Hp} {s' : Shared}, Inv (X.blk { s2 with heap := h3 } H3 scope ce fp) [] σ' H' s' → (∀ b ∈ fp, H' b = none) → ∀ b ∈ fp, FpOk (X.blk { s2 with heap := h3 } H3 scope ce fp) [] H' b := fun {σ' H' s'} I' hn b hb =>
    ⟨hn b hb, (I'.ok.exf b hb).1, I'.ok.exfs b hb, .inl hb, fun x c e => (I'.ok.exf b hb).2 x c e, fun p hp => absurd (show p ∈ ([] : List (Addr × Obj)) ++ [] from hp) (by simp)⟩
  have loop : codeAny (model X.prog X.w) X.A (.compLoop (.SetComp elt [⟨tg, iter, ifs, 0⟩] scope pos) 0 (.ref it) (.ref D) ce) (compPost (model X.prog X.w) X.A X.xe none (EP X pins σ Q) (.ref D) h3.objs.size) s4 := by
    refine compLoopS_any (fun n s' => ∃ i H', Inv (X.blk { s2 with heap := h3 } H3 scope ce fp) [] (wipe σ (own.map (·.2))) H' s' ∧ tn i s'.heap ∧ (∀ b ∈ fp, H' b = none) ∧ W i n H') ?_ m0 ⟨0, H3, I4, st4, fun b hb => (f3 b hb).1.1, w0⟩
    rintro n s5 ⟨i, H5, I5, st5, n5, w5⟩
    rcases turn i n H5 w5 with ⟨stop, qq⟩ | ⟨go, Nx, hNx, step⟩
    · refine thnF (T.done (X.blk { s2 with heap := h3 } H3 scope ce fp) rfl rfl rfl hc i [] s5 _ H5 (fun _ _ => False) I5 (stat I5 n5) st5 stop) fun r s6 ⟨hr, I6⟩ => ?_
      subst hr
      have I7 : Inv X pins σ H5 s6 := I3.call' (ch := fp) I6.os I6.base I6.hok I6.bare fun b hb => ⟨(f3 b hb).1.2.2.2.1, (f3 b hb).1.2.1, (f3 b hb).1.2.2.2.2.1, (f3 b hb).1.2.2.2.2.2⟩
      have nC : H5 h3.objs.size = none := by
        have z : H5 ce.locals = none := I6.free
        rwa [cL] at z
      obtain ⟨m, hn, _⟩ := I6.loc
      have hn : s6.heap.Ns ce.locals m := hn
      rw [cL] at hn
      obtain ⟨e0, e1, e2, e3, e4, e5⟩ := I3.fpOk (Nat.le_refl _) nC
      exact ⟨m, hn, fun h'' sb => ⟨.ref D, H5, I7.turned (t' := s6.toks) (fun b o hb e => (sb.2 b hb).trans e) e0 e1 e3 e4 e5, rfl, qq⟩⟩
    · refine thnF (T.item (X.blk { s2 with heap := h3 } H3 scope ce fp) rfl rfl rfl hc i [] s5 _ H5 (fun _ _ => False) I5 (stat I5 n5) st5 go) fun r s6 ⟨u, hr, h6⟩ => ?_
      subst hr
      refine thnF h6 fun _ s7 ⟨x, H7, I7, r7, y7, st7, n7⟩ => ?_
      have I7' := I7.pinned (stat I7 n7) (T.obj _ _ st7)
      refine thnF (pg.run _ s7 _ H7 x u _ I7' r7 (step x H7 y7)) fun _ s8 ⟨σ8, H8, I8, hw8, q8⟩ => ?_
      refine thnF (pt.run _ s8 σ8 H8 _ I8 q8) fun b s9 ⟨H9, I9, q9⟩ => ?_
      have fin : ∀ {s' : Shared} {H' : Hp}, Inv (X.blk { s2 with heap := h3 } H3 scope ce fp) ([] ++ pinsAt fp s7.heap) σ8 H' s' → Nx H' → ∃ m, m < n ∧ ∃ i H', Inv (X.blk { s2 with heap := h3 } H3 scope ce fp) [] (wipe σ (own.map (·.2))) H' s' ∧ tn i s'.heap ∧ (∀ b ∈ fp, H' b = none) ∧ W i m H' := fun {s' H'} I' nx => by
        obtain ⟨m', hm, w'⟩ := hNx H' nx
        have pin' : ∀ b ∈ fp, ∀ o, s7.heap.get? b = some o → s'.heap.get? b = some o ∧ H' b = none := fun b hb o e =>
          let z := I'.pin (b, o) (List.mem_append_right _ (List.mem_append_right _ (mem_pinsAt hb e)))
          ⟨z.1, z.2.1⟩
        refine ⟨m', hm, i + 1, H', (I'.unpinned (pins := [])).weak (by rw [← hw8, wipe_length]) (fun j v e => ?_), T.keep _ _ _ st7 fun b hb o e => (pin' b hb o e).1, fun b hb => ?_, w'⟩
        · rw [← hw8] at e
          exact (wipe_some e).1
        · obtain ⟨o, e, _⟩ := T.obj _ _ st7 b hb
          exact (pin' b hb o e).2
      cases b with
      | false =>
        rw [if_neg (by simp)] at q9 ⊢
        exact fin I9 q9
      | true =>
        rw [if_pos rfl] at q9 ⊢
        refine thnF (pe.run _ s9 σ8 H9 _ I9 q9) fun z s10 ⟨yv, H10, I10, r10, z1, z2, hD10, pu, nx⟩ => ?_
        exact kd.add (X.blk { s2 with heap := h3 } H3 scope ce fp) _ _ _ _ _ _ _ _ _ _ _ I10 hD10 r10 pu fun s11 I11 => fin I11 nx
  exact codeAny_compStart_set loop (T.self X.A 0 _ _ _ st4 loop)
end
end Sm
namespace Sm
open L2 PySem PySem.Spec
/-! ### ascending lists -/
def insU (y : Int) : List Int → List Int
  | [] => [y]
  | x :: xs => if y < x then y :: x :: xs else if y = x then x :: xs else x :: insU y xs
theorem mem_insU {y j : Int} : ∀ {l : List Int}, j ∈ insU y l ↔ j = y ∨ j ∈ l
  | [] => by simp [insU]
  | x :: xs => by
    unfold insU
    by_cases h : y < x
    · rw [if_pos h]; simp
    · rw [if_neg h]
      by_cases e : y = x
      · rw [if_pos e, e]; simp
      · rw [if_neg e, List.mem_cons, mem_insU, List.mem_cons]
        constructor
        · rintro (a | a | a)
          · exact .inr (.inl a)
          · exact .inl a
          · exact .inr (.inr a)
        · rintro (a | a | a)
          · exact .inr (.inl a)
          · exact .inl a
          · exact .inr (.inr a)
theorem asc_insU {y : Int} : ∀ {l : List Int}, l.Pairwise (· < ·) → (insU y l).Pairwise (· < ·)
  | [], _ => by simp [insU]
  | x :: xs, h => by
    obtain ⟨h1, h2⟩ := List.pairwise_cons.mp h
    unfold insU
    by_cases q : y < x
    · rw [if_pos q]
      refine List.pairwise_cons.mpr ⟨fun z hz => ?_, h⟩
      rcases List.mem_cons.mp hz with e | e
      · rw [e]; exact q
      · exact Int.lt_trans q (h1 z e)
    · rw [if_neg q]
      by_cases e : y = x
      · rw [if_pos e]; exact h
      · rw [if_neg e]
        refine List.pairwise_cons.mpr ⟨fun z hz => ?_, asc_insU h2⟩
        rcases mem_insU.mp hz with e | e
        · omega
        · exact h1 z e
theorem len_insU {y : Int} : ∀ {l : List Int}, l.Pairwise (· < ·) → (insU y l).length = if y ∈ l then l.length else l.length + 1
  | [], _ => by simp [insU]
  | x :: xs, h => by
    obtain ⟨h1, h2⟩ := List.pairwise_cons.mp h
    unfold insU
    by_cases q : y < x
    · have n : y ∉ x :: xs := fun z => by
        rcases List.mem_cons.mp z with e | e
        · omega
        · have := h1 y e; omega
      rw [if_pos q, if_neg n]; rfl
    · rw [if_neg q]
      by_cases e : y = x
      · rw [if_pos e, if_pos (by rw [e]; simp)]
      · rw [if_neg e, List.length_cons, len_insU h2]
        by_cases m : y ∈ xs
        · rw [if_pos m, if_pos (List.mem_cons_of_mem _ m)]; rfl
        · rw [if_neg m, if_neg (by simp [e, m])]; rfl
theorem asc_ext : ∀ {l k : List Int}, l.Pairwise (· < ·) → k.Pairwise (· < ·) → (∀ j, j ∈ l ↔ j ∈ k) → l = k
  | [], [], _, _, _ => rfl
  | [], y :: k, _, _, h => absurd ((h y).mpr (by simp)) (by simp)
  | x :: l, [], _, _, h => absurd ((h x).mp (by simp)) (by simp)
  | x :: l, y :: k, a, b, h => by
    obtain ⟨a1, a2⟩ := List.pairwise_cons.mp a
    obtain ⟨b1, b2⟩ := List.pairwise_cons.mp b
    have e : x = y := by
      rcases List.mem_cons.mp ((h x).mp (by simp)) with p | p
      · exact p
      · rcases List.mem_cons.mp ((h y).mpr (by simp)) with q | q
        · exact q.symm
        · have := b1 x p; have := a1 y q; omega
    subst e
    rw [asc_ext a2 b2 fun j => ?_]
    constructor
    · intro hj
      rcases List.mem_cons.mp ((h j).mp (List.mem_cons_of_mem _ hj)) with p | p
      · have := a1 j hj; omega
      · exact p
    · intro hj
      rcases List.mem_cons.mp ((h j).mpr (List.mem_cons_of_mem _ hj)) with p | p
      · have := b1 j hj; omega
      · exact p
/-! ### the mirror -/
def goSc (s : Src) (g : MG) (c : MT) (m : ME) (env : Env) : Nat → Nat → List Int → M (List Int)
  | 0, _, acc, st => if s.fin st = true then .ok acc st else .no
  | k + 1, i, acc, st => match s.item i st with
    | none => .no
    | some x => match g x env st with
      | .ok env' st' => match c env' st' with
        | .ok true s2 => match m env' s2 with
          | .ok (.int y) s3 => if acc.length + 1 < 4096 then goSc s g c m env k (i + 1) (insU y acc) s3 else .no
          | _ => .no
        | .ok false s2 => goSc s g c m env k (i + 1) acc s2
        | _ => .no
      | _ => .no
/-- sorted({m for g in i if c}), ints -/
def mSsc (i : MI) (g : MG) (c : MT) (m : ME) (vs : List Nat) : ME := fun env => bnd (i env) fun s => bnd (goSc s g c m (wipeI env vs) s.n 0 []) fun ns st =>
  if ns.length < 64 then .ok (.ref st.length) (st ++ [.lst (ns.map .int)]) else .no
section
variable {X : Cx} {W : WX} {r r' : List Addr} {H H' : Hp} {σ : L2.St} {env : Env} {st : Hs} {mi : MI} {g : MG} {tc : MT} {me : ME} {sl : List Nat}
/-- a set's address is written: all else stands -/
theorem rv_ext {K : PySem.W.Frag} {H : Hp} {D : Addr} {F : Heap → Prop} {o : HO} (hD : H D = some (.ext F)) {x : IV} {v : V} (h : RV K H r x v) : RV K (upd H D o) r x v :=
  RV.rec (motive_1 := fun x v _ => RV K (upd H D o) r x v) (motive_2 := fun xs vs _ => RVs K (upd H D o) r xs vs) .non .bl .int .str
    (fun h _ ih => .tup (by
      rcases h with (h | ⟨o, h⟩) | h
      · exact .inl (.inl (by rw [upd_ne (fun z => by rw [z, hD] at h; cases h)]; exact h))
      · exact .inl (.inr ⟨o, by rw [upd_ne (fun z => by rw [z, hD] at h; cases h)]; exact h⟩)
      · exact .inr h) ih)
    (fun h _ ih => .rl (by
      rcases h with ⟨o, h⟩ | h
      · exact .inl ⟨o, by rw [upd_ne (fun z => by rw [z, hD] at h; cases h)]; exact h⟩
      · exact .inr h) ih) (fun h => .ref h)
    (fun h n h2 n2 e e2 _ ih => .obj (by rw [upd_ne (fun z => by rw [z, hD] at h; cases h)]; exact h) n (by rw [upd_ne (fun z => by rw [z, hD] at h2; cases h2)]; exact h2) n2 e e2 ih) (fun h e1 e2 _ ih => .fd (by rw [upd_ne (fun z => by rw [z, hD] at h; cases h)]; exact h) e1 e2 ih) (fun e h a b => .cls e h a b) .nil (fun _ _ a b => .cons a b) h
theorem rvs_ext {K : PySem.W.Frag} {H : Hp} {D : Addr} {F : Heap → Prop} {o : HO} (hD : H D = some (.ext F)) : ∀ {xs : List IV} {us : List V}, RVs K H r xs us → RVs K (upd H D o) r xs us
  | _, _, .nil => .nil
  | _, _, .cons a b => .cons (rv_ext hD a) (rvs_ext hD b)
theorem Mt.ext {K : PySem.W.Frag} {H : Hp} (m : Mt K H r st) {D : Addr} {F : Heap → Prop} {o : HO} (hD : H D = some (.ext F)) (nD : D ∉ r) : Mt K (upd H D o) r st :=
  ⟨m.len, m.nd, fun i u q h1 h2 => by
    have hq : q ≠ D := fun z => nD (z ▸ List.mem_of_getElem? h2)
    have := m.at_ i u q h1 h2
    cases u with
    | lst ys =>
      obtain ⟨us, e1, rs⟩ := this
      exact ⟨us, by rw [upd_ne hq]; exact e1, rvs_ext hD rs⟩
    | dct kvs =>
      obtain ⟨dk, e1, e2, hs⟩ := this
      exact ⟨dk, by rw [upd_ne hq]; exact e1, e2, rvs_ext hD hs⟩
    | ins c ns ys =>
      obtain ⟨dx, fs, e1, e2, n2, e3, hs⟩ := this
      exact ⟨dx, fs, by rw [upd_ne hq]; exact e1, by rw [upd_ne (fun z => by rw [z, hD] at e2; cases e2)]; exact e2, n2, e3, rvs_ext hD hs⟩⟩
theorem xt_put {H1 : Hp} {r1 : List Addr} (x : Xt r1 H1 r H) {D : Addr} {o : HO} (n : H1 D = none) : Xt r1 H1 r (upd H D o) :=
  ⟨x.pre, fun p u h hn => by
    obtain ⟨a, b⟩ := x.fr p u h hn
    exact ⟨by rw [upd_ne (ne_of_none h n)]; exact a, b⟩⟩
def rSetI (w : World) : List V → Hp → VK → Prop := fun vs H Q => ∃ (a : Addr) (S : Int → Bool) (n : Nat), vs = [V.ref a] ∧ H a = some (SetRO w a S n) ∧ n < 64 ∧
  ∀ (ns : List Int) (p : Addr), ns.Pairwise (· < ·) → (∀ k, k ∈ ns ↔ S k = true) → H p = none → Q (.ref p) (upd H p (.lst (ns.map V.int)))
theorem cr_sortedSet (hc : X.calm = true) : CallR X (.builtin "sorted") (rSetI X.w) := by
  intro pins s σ H vs us Q I r h
  obtain ⟨a, S, n, rfl, ha, h64, q⟩ := h
  rw [Vals.ref1 r]
  have R : SetR X.w s.heap a S n := (I.hok a _ ha).1
  refine sorted_set R (I.ok.hd hc) h64 fun s' p out c ns kk hg ho hp hat hi h1 h2 h3 => ?_
  have hlen : (ns.map V.int).length ≤ sizeLine := by rw [List.length_map, h3]; exact small64 h64
  have hn := I.hok.fresh hp
  exact ⟨.ref p, upd H p (.lst (ns.map V.int)), I.call' (ch := []) ho (Un.laid kk hp hn) (I.hok.laid kk hp ⟨hlen, out.toList, c, vals_of_ints hi, hat⟩) (by rw [hg]; exact I.bare) (fun _ z => nomatch z), rfl, q ns p h1 h2 hn⟩
theorem rvs_ints {K : PySem.W.Frag} {H : Hp} {r : List Addr} : ∀ ns : List Int, RVs K H r (ns.map .int) (ns.map V.int)
  | [] => .nil
  | n :: ns => .cons (.int n) (rvs_ints ns)
theorem ssc_m {vs : List Nat} {Q : VK} (hv : ∀ i ∈ sl, i ∈ vs) (h : tE X W (mSsc mi g tc me vs) σ H Q) : tCB (rSetI X.w) (tCons (tSk (intKd X) X.w (tIm X W mi) (tGm X sl g) (tT X W0 tc) (tE X W0 me) vs) tNil) σ H Q := by
  obtain ⟨r, env, st, he, hm, h⟩ := h
  refine ⟨r, env, st, he, hm, (Aft.split (rel := SrcR X) h).imp fun J H1 ⟨s, r1, st1, x1, m1, hJ, h1⟩ D hD => ?_⟩
  have e1 := he.mono x1 hm
  refine ⟨fun i k H => i + k = s.n ∧ ∃ r' st' acc S, Xt r1 H1 r' H ∧ Mt X.K H r' st' ∧ H D = some (SetRO X.w D S acc.length) ∧ D ∉ r' ∧ acc.Pairwise (· < ·) ∧ (∀ j, j ∈ acc ↔ S j = true) ∧
      Aft X W σ (rV X.K) r1 H1 (bnd (goSc s g tc me (wipeI env vs) k i acc) (fun ns st => if ns.length < 64 then .ok (.ref st.length) (st ++ [.lst (ns.map .int)]) else .no) st') Q,
    ⟨s.n, Nat.zero_add _, r1, st1, [], _, Xt.aside hD, m1.aside hD, upd_same, m1.outD hD, .nil, fun j => by simp [intKd], h1⟩, ?_⟩
  rintro i k H ⟨ek, r', st', acc, S, x2, m2, d2, n2, as, ms, h2⟩
  obtain ⟨j1, j2⟩ := hJ r' H st' x2 m2
  cases k with
  | zero =>
    have ei : i = s.n := ek
    subst ei
    unfold bnd goSc at h2
    by_cases q : s.fin st' = true
    · rw [if_pos q] at h2
      dsimp only at h2
      by_cases q64 : acc.length < 64
      · rw [if_pos q64] at h2
        refine .inl ⟨j1 q, D, S, acc.length, rfl, d2, q64, fun ns p a1 a2 hp => ?_⟩
        have e : ns = acc := asc_ext a1 as fun j => (a2 j).trans (ms j).symm
        subst e
        exact h2 (r' ++ [p]) _ (.ref p) (x2.trans (Xt.new hp)) (m2.new hp ⟨_, upd_same, rvs_ints ns⟩) (RV.last m2)
      · rw [if_neg q64] at h2; exact h2.elim
    · rw [if_neg q] at h2; exact h2.elim
  | succ k =>
    unfold bnd goSc at h2
    cases q : s.item i st' with
    | none => rw [q] at h2; exact h2.elim
    | some x =>
      rw [q] at h2
      dsimp only at h2
      obtain ⟨j3, j4⟩ := j2 i x q
      refine .inr ⟨j3, fun H' => ∃ r' st' acc S, Xt r1 H1 r' H' ∧ Mt X.K H' r' st' ∧ H' D = some (SetRO X.w D S acc.length) ∧ D ∉ r' ∧ acc.Pairwise (· < ·) ∧ (∀ j, j ∈ acc ↔ S j = true) ∧
          Aft X W σ (rV X.K) r1 H1 (bnd (goSc s g tc me (wipeI env vs) k (i + 1) acc) (fun ns st => if ns.length < 64 then .ok (.ref st.length) (st ++ [.lst (ns.map .int)]) else .no) st') Q,
        fun H' hN => ⟨k, Nat.lt_succ_self k, by omega, hN⟩, fun v H' y => ?_⟩
      obtain ⟨x3, m3, rv⟩ := j4 v H' y
      obtain ⟨d3, n3⟩ := x3.fr D _ d2 n2
      refine ⟨r', wipeI env vs, st', x, ((e1.mono x2 m1).mono x3 m2).wipe vs, m3, rv, ?_⟩
      cases q2 : g x (wipeI env vs) st' with
      | no => rw [q2] at h2; exact h2.elim
      | ex a s2 => rw [q2] at h2; exact h2.elim
      | ok env3 st3 =>
        rw [q2] at h2
        dsimp only at h2
        refine Aft0.ok fun r4 H4 σ4 x4 m4 e4 => ⟨(e4.2 vs hv).trans (wipe_wipe (fun i h => h)), r4, env3, st3, e4.1, m4, ?_⟩
        obtain ⟨d4, n4⟩ := x4.fr D _ d3 n3
        have x14 := (x2.trans x3).trans x4
        cases q3 : tc env3 st3 with
        | no => rw [q3] at h2; exact h2.elim
        | ex a s2 => rw [q3] at h2; exact h2.elim
        | ok t st4 =>
          rw [q3] at h2
          refine Rs.ok_of fun r5 H5 b x5 m5 eb => ?_
          have eb : t = b := eb
          subst eb
          obtain ⟨d5, n5⟩ := x5.fr D _ d4 n4
          have x15 := x14.trans x5
          cases t with
          | false =>
            dsimp only at h2
            refine iteF ⟨r5, st4, acc, S, x15, m5, d5, n5, as, ms, h2⟩
          | true =>
            dsimp only at h2
            refine iteT ⟨r5, env3, st4, e4.1.mono x5 m4, m5, ?_⟩
            cases q4 : me env3 st4 with
            | no => rw [q4] at h2; exact h2.elim
            | ex a s2 => rw [q4] at h2; exact h2.elim
            | ok y st5 =>
              rw [q4] at h2
              refine Rs.ok_of fun r6 H6 w x6 m6 rw6 => ?_
              obtain ⟨d6, n6⟩ := x6.fr D _ d5 n5
              cases rw6 with
              | int c =>
                dsimp only at h2
                by_cases q5 : acc.length + 1 < 4096
                · rw [if_pos q5] at h2
                  refine ⟨(S, acc.length), _, d6, ⟨c, rfl, q5, rfl⟩, r6, st5, insU c acc, fun j => S j || decide (j = c), xt_put (x15.trans x6) hD, m6.ext d6 n6, ?_, n6, asc_insU as, fun j => ?_, h2⟩
                  · rw [upd_same, len_insU as]
                    by_cases hc : S c = true
                    · rw [if_pos ((ms c).mpr hc)]
                      show some (SetRO X.w D _ (if S c = true then _ else _)) = _
                      rw [if_pos hc]
                    · rw [if_neg (fun z => hc ((ms c).mp z))]
                      show some (SetRO X.w D _ (if S c = true then _ else _)) = _
                      rw [if_neg hc]
                  · rw [mem_insU, ms j, Bool.or_eq_true, decide_eq_true_eq]
                    exact Or.comm
                · rw [if_neg q5] at h2; exact h2.elim
              | _ => exact h2.elim
section
variable {elt tg iter : Expr} {ifs : List Expr} {scope : Scope} {own : List (Str × Nat)} {pos : Pos}
/-- sorted({elt for tg in iter if ..}) of ints -/
theorem pem_ssc {p cpos : Pos} (hc : X.calm = true) (hN : X.N.Nodup) (ok : BlkOk X.N X.env.scope scope own) (hi : PIm X W tg iter mi)
    (hg : ∀ (s : Shared) (H : Hp) (C : Addr) (cl : List (Str × Addr)) (fp : List Addr), PGm (X.blk s H scope (compEnvC scope cl C X.env) fp) sl tg g) (ht : ∀ (s : Shared) (H : Hp) (C : Addr) (cl : List (Str × Addr)) (fp : List Addr), PTsm (X.blk s H scope (compEnvC scope cl C X.env) fp) W0 ifs tc)
    (he : ∀ (s : Shared) (H : Hp) (C : Addr) (cl : List (Str × Addr)) (fp : List Addr), PEm (X.blk s H scope (compEnvC scope cl C X.env) fp) W0 elt me) (hgs : Gl X "sorted") (hms : X.mg "sorted" = none) (hv : ∀ i ∈ sl, i ∈ own.map (·.2) := by decide) (hs : ∀ x, foldedSetIterable iter X.env x = pure x := by intro _; rfl)
    (hpl : (backTo cpos (starEach [.SetComp elt [⟨tg, iter, ifs, 0⟩] scope pos] X.env)).any (·.1) = false := by rfl) :
    PEm X W (.Call (.Name "sorted" p) [.SetComp elt [⟨tg, iter, ifs, 0⟩] scope pos] [] cpos) (mSsc mi g tc me (own.map (·.2))) :=
  PE.weak (pe_callB (cr_sortedSet hc) hgs hms rfl (pa_cons (pe_sk (tt := tT X W0 tc) (te := tE X W0 me) (g := tGm X sl g) (intKd X) hc hN hi ok hg ht he hs) pa_nil) (by decide) (by decide) rfl hpl) fun σ H Q h => ssc_m hv h
end
end
end Sm

set_option Elab.async false
set_option linter.all false
set_option maxRecDepth 100000
set_option maxHeartbeats 4000000
namespace Sm
open L2 PySem PySem.Spec
/-! ### enumerate(tuple) -/
theorem meets_enumerate_newT (t : Addr) (items : Array Value) :
    Meets (Builtin.«enumerate.__new__» ⟨[.type "enumerate", .ref t], []⟩) (fun _ R s => s.heap.IsTuple t items ∧
      R (.ok (.ret (.ref (s.heap.push { cls := .type "tuple_iterator", data := .fields #[.ref t, .int 0 0] }).objs.size)))
        { s with heap := (s.heap.push { cls := .type "tuple_iterator", data := .fields #[.ref t, .int 0 0] }).push { cls := .type "enumerate", data := .fields #[.none, .bool false, .ref s.heap.objs.size, rawInt 0, .none, .none] } }) :=
  .of_wp fun prog w A R s h => by
    obtain ⟨hp, g, d, tk, os⟩ := s; obtain ⟨h1, h⟩ := h
    have hsub := PySem.sub_enumerate
    have q1 : ∀ {A' : Around} {E : Value → Shared → Prop} {Q : Value → Shared → Prop}, Q (.ref hp.objs.size) ⟨hp.push { cls := .type "tuple_iterator", data := .fields #[.ref t, .int 0 0] }, g, d, tk, os⟩ → wpAny (model prog w) A' (pyIter (.ref t)) Q E ⟨hp, g, d, tk, os⟩ :=
      fun q => wpAny_pyIter_tuple h1 q
    wp_walk using q1
    refine wpAny_stack_any fun st => wpAny_pure ?_
    split
    · rename_i c _ _ _ _ _
      cases (c == Value.type "enumerate")
      · wp_walk using q1
        exact ⟨_, rfl, h⟩
      · wp_walk using q1
        exact ⟨_, rfl, h⟩
    · wp_walk using q1
      exact ⟨_, rfl, h⟩
theorem call_enumT {prog : Program} {w : World} {A : Around} {E : Value → Shared → Prop} {s : Shared} {t : Addr} {items : Array Value} {Q : Value → Shared → Prop} (hL : s.heap.IsTuple t items)
    (h : ∀ h', IsEnum h' (s.heap.objs.size + 1) s.heap.objs.size 0 .none → h'.IsTupleIter s.heap.objs.size t 0 → (∀ b o, s.heap.get? b = some o → h'.get? b = some o) → Q (.ref (s.heap.objs.size + 1)) { s with heap := h' }) :
    wpAny (model prog w) A (call (.type "enumerate") [.ref t]) Q E s := by
  refine callType_new F.called_enumerate (by decide) (F.typeCall_enumerate_1 _) (F.newCall_enumerate_1 _) (fun obj => F.args_object_init_2 obj _) F.entry_enumerate_new
    (meets_enumerate_newT t items) ⟨hL, ?_⟩
  have hz : (s.heap.push { cls := .type "tuple_iterator", data := .fields #[.ref t, .int 0 0] }).objs.size = s.heap.objs.size + 1 := Heap.size_push ..
  show _ ∧ _
  rw [hz]
  have he : IsEnum ((s.heap.push { cls := .type "tuple_iterator", data := .fields #[.ref t, .int 0 0] }).push
      { cls := .type "enumerate", data := .fields #[.none, .bool false, .ref s.heap.objs.size, rawInt 0, .none, .none] }) (s.heap.objs.size + 1) s.heap.objs.size 0 .none := by
    have := Heap.get?_push_size (s.heap.push { cls := .type "tuple_iterator", data := .fields #[.ref t, .int 0 0] })
      (o := { cls := .type "enumerate", data := .fields #[.none, .bool false, .ref s.heap.objs.size, rawInt 0, .none, .none] }) rfl
    rw [hz] at this; exact this
  refine ⟨⟨_, he, rfl⟩, h _ he ⟨_, Heap.get?_push_of_some _ (Heap.get?_push_size _ rfl), rfl, rfl⟩ fun b o x => Heap.get?_push_of_some _ (Heap.get?_push_of_some _ x)⟩
/-- the tuple at a, each item in a new pair -/
def IteT (K : PySem.W.Frag) (a : Addr) : It :=
  ⟨fun i H => ∃ (xs : List V) (x : V), SqT K H a xs ∧ xs[i]? = some x, fun i H v H' => ∃ T x, v = .ref T ∧ H T = none ∧ H' = upd H T (.tup [.int (i : Nat), x]) ∧ ∀ xs, SqT K H a xs → xs[i]? = some x, fun i H => ∃ xs : List V, SqT K H a xs ∧ xs.length = i⟩
theorem apartT {h : Heap} {t it : Addr} {items : Array Value} {i : Nat} (p : h.IsTuple t items) (q : h.IsTupleIter it t i) : t ≠ it := fun z => by
  obtain ⟨o, ho, hc, _⟩ := p
  obtain ⟨o', ho', hc', _⟩ := q
  rw [← z, ho] at ho'
  cases ho'
  have hc : o.cls = .type "tuple" := hc
  rw [hc] at hc'
  exact absurd (Value.type.inj hc') (by decide)
theorem turn_enumT {P : Program} {w : World} {K : PySem.W.Frag} {elts : List Expr} {kk : Nat} {tpos : Pos} (a e it : Addr) :
    Turn P w K (.Tuple elts kk tpos) (IteT K a) [e, it] e (fun i h => (∃ old, IsEnum h e it ((i : Nat) : Int) old) ∧ h.IsTupleIter it a i ∧ e ≠ it) where
  mem := by simp
  obj := fun i h st b hb => by
    obtain ⟨⟨old, he⟩, ⟨o, ho, hc, hd⟩, _⟩ := st
    have e' : b = e ∨ b = it := by simpa using hb
    rcases e' with z | z
    · rw [z]; exact ⟨_, he, fun v q => nomatch q⟩
    · rw [z]; exact ⟨o, ho, fun v q => by rw [hd] at q; cases q⟩
  keep := fun i h h' st k => let ⟨⟨old, he⟩, hi, hne⟩ := st; ⟨⟨old, k e (by simp) _ he⟩, hi.at fun o q => k it (by simp) o q, hne⟩
  item := by
    intro X hP hw hK hc i pins s σ H E I hf st hg
    subst hP hw hK
    obtain ⟨⟨old, he⟩, hit, hne⟩ := st
    obtain ⟨xs, x, hq, hx⟩ := hg
    obtain ⟨its, rv, p, hz⟩ := I.tuple hq
    obtain ⟨u, hu, ru⟩ := rv.get hx
    have hel : e < s.heap.objs.size := Heap.lt_size he
    have hil : it < s.heap.objs.size := by obtain ⟨_, q, _⟩ := hit; exact Heap.lt_size q
    have p : s.heap.IsTuple a its.toArray := p
    have hea : e ≠ a := fun z => by
      obtain ⟨o, ho, hc', _⟩ := p
      have hc' : o.cls = .type "tuple" := hc'
      rw [← z, he] at ho
      cases ho
      exact absurd (Value.type.inj hc') (by decide)
    have hi : i < its.toArray.size := by
      have := (List.getElem?_eq_some_iff.mp hu).1
      simpa using this
    refine wpAny_pyNext_enum_itemC (Draws.tuple (show X.A.in1.handled = none from I.ok.hd hc) it a (apartT p hit) its.toArray) he ⟨hit, p⟩ hi hne (by simp [hne, hea]) fun u' h' tk hu' ho hit' hT hsz hk => ?_
    have eu : u' = u := by
      have q : its.toArray[i]? = some u := by simpa using hu
      rw [q] at hu'
      exact (Option.some.inj hu').symm
    subst eu
    refine ⟨_, rfl, wpAny_letOwnedTupleGo_enum (s := { s with heap := h', toks := tk + 1 }) ho fun h'' he' sb => ?_⟩
    have hT2 : h''.get? s.heap.objs.size = some { cls := .type "tuple", data := .seq #[.int i tk, u'] } := (sb.2 _ (Nat.ne_of_gt hel)).trans hT
    have new : ObjOk X.prog X.w (upd H s.heap.objs.size (.tup [.int (i : Nat), x])) h'' s.heap.objs.size (.tup [.int (i : Nat), x]) :=
      ⟨by show 2 ≤ sizeLine; decide, [.int i tk, u'], .cons ⟨_, rfl⟩ (.cons ru .nil), ⟨_, hT2, rfl, _, rfl⟩⟩
    have I1 : Inv X pins σ (upd H s.heap.objs.size (.tup [.int (i : Nat), x])) { s with heap := h'', toks := tk + 1 } :=
      I.turnedNew (ch := [e, it]) (fun b ob hb q => (sb.2 b (fun z => hb (by simp [z]))).trans (hk b ob (fun z => hb (by simp [z])) (fun z => hb (by simp [z])) q)) hf (Nat.le_refl _) new
    refine ⟨.ref s.heap.objs.size, _, I1, rfl, ⟨_, x, rfl, I.hok.fresh (Nat.le_refl _), rfl, fun ys hy => by rw [I.tuple_inj hy hq]; exact hx⟩, ⟨⟨u', ?_⟩, hit'.1.at fun o q => (sb.2 it (Ne.symm hne)).trans q, hne⟩, fun b hb => ?_⟩
    · have e1 : ((i + 1 : Nat) : Int) = (i : Int) + 1 := by omega
      rw [e1]; exact he'
    · have hb' : b < s.heap.objs.size := by
        have e' : b = e ∨ b = it := by simpa using hb
        rcases e' with z | z
        · rw [z]; exact hel
        · rw [z]; exact hil
      rw [upd_ne (Nat.ne_of_lt hb')]
      exact (hf b hb).1
  done := by
    intro X hP hw hK hc i pins s σ H E I hf st hg
    subst hP hw hK
    obtain ⟨⟨old, he⟩, hit, hne⟩ := st
    obtain ⟨xs, hq, hx⟩ := hg
    obtain ⟨its, rv, p, hz⟩ := I.tuple hq
    have p : s.heap.IsTuple a its.toArray := p
    obtain ⟨f0, f1, f2, f3, f4, f5⟩ := hf it (by simp)
    have hl := rv.length
    have ei : i = its.toArray.size := by simp; omega
    subst ei
    exact wpAny_pyNext_enum_endD (Draws.tuple (show X.A.in1.handled = none from I.ok.hd hc) it a (apartT p hit) its.toArray) he ⟨hit, p⟩ fun h' eb => ⟨rfl, I.turned (t' := s.toks) (fun b o hb q => eb b o hb q) f0 f1 f3 f4 f5⟩
  self := fun A i s Q E st h => let ⟨⟨_, he⟩, _⟩ := st; wpAny_pyIter_enum he h
def iEnumT (K : PySem.W.Frag) (ta : TA) : TI := fun σ H R => ta σ H fun vs H1 => ∃ a xs, vs = [.ref a] ∧ SqT K H1 a xs ∧ R (IteT K a) H1
theorem pi_enumT {X : Cx} {e : Expr} {ta : TA} {p pos tpos : Pos} {elts : List Expr} {kk : Nat} (hg : Gl X "enumerate") (hm : X.mg "enumerate" = none) (ha : PA X [e] ta) (hs : starEach [e] X.env = [(false, eval e X.env)] := by rfl) :
    PI X (.Tuple elts kk tpos) (.Call (.Name "enumerate" p) [e] [] pos) (iEnumT X.K ta) := by
  refine ⟨fun pins s σ H R I h => ?_⟩
  refine PyProof.Rows.Call_ (ld_blt I hg hm PyProof.Rows.boot_enumerate (PyProof.Rows.callWith_type1 (thn (ha.run pos pins s σ H _ I h) fun us s1 ⟨vs, H1, I1, r1, a, xs, ex, hq, q⟩ => ?_) hs rfl))
  subst ex
  cases r1 with
  | cons r rr =>
    cases rr
    cases r
    obtain ⟨its, rv, p', hz⟩ := I1.tuple hq
    refine call_enumT (show s1.heap.IsTuple a its.toArray from p') fun h' he hit hk => wpAny_pyIter_enum he ?_
    have I2 : Inv X pins σ H1 { s1 with heap := h' } := I1.kept (t' := s1.toks) hk
    refine ⟨s1.heap.objs.size + 1, [s1.heap.objs.size + 1, s1.heap.objs.size], _, _, H1, rfl, I2, turn_enumT a (s1.heap.objs.size + 1) s1.heap.objs.size, ⟨⟨.none, he⟩, hit, Nat.succ_ne_self _⟩, fun b hb => ?_, q⟩
    have hle : s1.heap.objs.size ≤ b := by
      have e' : b = s1.heap.objs.size + 1 ∨ b = s1.heap.objs.size := by simpa using hb
      rcases e' with z | z
      · rw [z]; exact Nat.le_add_right _ _
      · rw [z]; exact Nat.le_refl _
    exact I1.fpOk hle (I1.hok.fresh hle)
end Sm

set_option Elab.async false
set_option linter.all false
set_option maxRecDepth 100000
set_option maxHeartbeats 4000000
namespace Sm
open L2 PySem PySem.Spec
/-! ### enumerate and zip as sources -/
def iEnL (ms : MA) : MI := fun env => bnd (ms env) fun xs st => match xs with
  | [x] => match lstOf st x with
    | some ys => .ok (.enu x ys.length) st
    | none => .no
  | _ => .no
def iEnT (ms : MA) : MI := fun env => bnd (ms env) fun xs st => match xs with
  | [.tup ys] => .ok (.enu (.tup ys) ys.length) st
  | _ => .no
def iZp (ms : MA) : MI := fun env => bnd (ms env) fun xs st => match xs with
  | [.tup ys, .tup zs] => .ok (.zip (.tup ys) (.tup zs) (min ys.length zs.length)) st
  | [x, y] => match lstOf st x, lstOf st y with
    | some ys, some zs => .ok (.zip x y (min ys.length zs.length)) st
    | _, _ => .no
  | _ => .no
section
variable {X : Cx} {W : WX} {r r' : List Addr} {H H' : Hp} {σ : L2.St} {env : Env} {st : Hs} {ms : MA} {pos : Pos}
/-- what stands at an address as a sequence: a tuple or a list -/
def SqA (K : PySem.W.Frag) (H : Hp) (b : Bool) (p : Addr) (vs : List V) : Prop := if b = true then SqT K H p vs else SqL K H p vs
def kdOf : IV → Bool
  | .tup _ => true
  | _ => false
theorem seqA_at {x : IV} {v : V} {xs : List IV} (hm : Mt X.K H r st) (hx : RV X.K H r x v) (h : seqOf st x = some xs) : ∃ p vs, v = .ref p ∧ SqA X.K H (kdOf x) p vs ∧ RVs X.K H r xs vs := by
  cases x with
  | tup ys =>
    cases h
    cases hx with
    | tup ht rs => exact ⟨_, _, rfl, ht, rs⟩
  | rl ys =>
    obtain ⟨p, vs, e, hq, rs⟩ := lst_at (y := .rl ys) hm h hx
    exact ⟨p, vs, e, hq, rs⟩
  | ref a =>
    obtain ⟨p, vs, e, hq, rs⟩ := lst_at (y := .ref a) hm h hx
    exact ⟨p, vs, e, hq, rs⟩
  | _ => cases h
/-- one pair at a time, new -/
theorem pair_new {T : Addr} {a b : IV} {v w : V} (m : Mt X.K H r st) (ra : RV X.K H r a v) (rb : RV X.K H r b w) (n : H T = none) : Xt r H r (upd H T (.tup [v, w])) ∧ Mt X.K (upd H T (.tup [v, w])) r st ∧ RV X.K (upd H T (.tup [v, w])) r (.tup [a, b]) (.ref T) :=
  ⟨Xt.aside n, m.aside n, .tup (.inl (.inl upd_same)) (.cons (ra.mono (Xt.aside n) m) (.cons (rb.mono (Xt.aside n) m) .nil))⟩
theorem src_enu {x : IV} {p : Addr} {n : Nat} {J : It} (hx : RV X.K H r x (.ref p)) (hm : Mt X.K H r st)
    (hJ : ∀ H' vs, SqA X.K H' (kdOf x) p vs → J.stop vs.length H' ∧ ∀ i w, vs[i]? = some w → J.go i H' ∧ ∀ u H2, J.yld i H' u H2 → ∃ T, u = .ref T ∧ H' T = none ∧ H2 = upd H' T (.tup [.int (i : Nat), w])) : SrcR X H r (.enu x n) J := fun r' H' st' x1 m1 => by
  have hx' := hx.mono x1 hm
  refine ⟨fun h => ?_, fun i y h => ?_⟩
  · unfold Src.fin at h
    dsimp only at h
    cases q : seqOf st' x with
    | none => rw [q] at h; cases h
    | some xs =>
      rw [q] at h
      obtain ⟨p', vs, e0, hs, rs⟩ := seqA_at m1 hx' q
      cases e0
      obtain ⟨h1, _⟩ := hJ H' vs hs
      have e : xs.length = n := eq_of_beq h
      rw [← rs.length, e] at h1
      exact h1
  · unfold Src.item at h
    dsimp only at h
    cases q : seqOf st' x with
    | none => rw [q] at h; cases h
    | some xs =>
      rw [q] at h
      obtain ⟨p', vs, e0, hs, rs⟩ := seqA_at m1 hx' q
      cases e0
      obtain ⟨_, h2⟩ := hJ H' vs hs
      have h : (if xs.length = n then xs[i]?.map fun z => IV.tup [.int i, z] else none) = some y := h
      by_cases e : xs.length = n
      · rw [if_pos e] at h
        cases q2 : xs[i]? with
        | none => rw [q2] at h; cases h
        | some z =>
          rw [q2] at h
          cases h
          obtain ⟨w, e1, rw1⟩ := rs.get q2
          obtain ⟨g1, g2⟩ := h2 i w e1
          refine ⟨g1, fun u H2 y => ?_⟩
          obtain ⟨T, rfl, nT, rfl⟩ := g2 u H2 y
          exact pair_new m1 (.int _) rw1 nT
      · rw [if_neg e] at h; cases h
theorem src_zip {x y : IV} {p q : Addr} {n : Nat} {J : It} (hx : RV X.K H r x (.ref p)) (hy : RV X.K H r y (.ref q)) (hm : Mt X.K H r st)
    (hJ : ∀ H' vs ws, SqA X.K H' (kdOf x) p vs → SqA X.K H' (kdOf y) q ws → (∀ n, min vs.length ws.length = n → J.stop n H') ∧ ∀ i v w, vs[i]? = some v → ws[i]? = some w → J.go i H' ∧ ∀ u H2, J.yld i H' u H2 → ∃ T, u = .ref T ∧ H' T = none ∧ H2 = upd H' T (.tup [v, w])) : SrcR X H r (.zip x y n) J := fun r' H' st' x1 m1 => by
  have hx' := hx.mono x1 hm
  have hy' := hy.mono x1 hm
  refine ⟨fun h => ?_, fun i z h => ?_⟩
  · unfold Src.fin at h
    dsimp only at h
    cases q1 : seqOf st' x with
    | none => rw [q1] at h; cases h
    | some xs =>
      cases q2 : seqOf st' y with
      | none => rw [q1, q2] at h; cases h
      | some ys =>
        rw [q1, q2] at h
        obtain ⟨p', vs, e0, hs, rs⟩ := seqA_at m1 hx' q1
        obtain ⟨q', ws, e1, hs2, rs2⟩ := seqA_at m1 hy' q2
        cases e0
        cases e1
        have e : min xs.length ys.length = n := eq_of_beq h
        exact (hJ H' vs ws hs hs2).1 n (by rw [← e, rs.length, rs2.length])
  · unfold Src.item at h
    dsimp only at h
    cases q1 : seqOf st' x with
    | none => rw [q1] at h; cases h
    | some xs =>
      cases q2 : seqOf st' y with
      | none => rw [q1, q2] at h; cases h
      | some ys =>
        rw [q1, q2] at h
        obtain ⟨p', vs, e0, hs, rs⟩ := seqA_at m1 hx' q1
        obtain ⟨q', ws, e1, hs2, rs2⟩ := seqA_at m1 hy' q2
        cases e0
        cases e1
        have h : (if min xs.length ys.length = n then pairAt xs ys i else none) = some z := h
        by_cases e : min xs.length ys.length = n
        · rw [if_pos e] at h
          unfold pairAt at h
          cases q3 : xs[i]? with
          | none => rw [q3] at h; cases h
          | some a =>
            cases q4 : ys[i]? with
            | none => rw [q3, q4] at h; cases h
            | some b =>
              rw [q3, q4] at h
              cases h
              obtain ⟨v, e1, rw1⟩ := rs.get q3
              obtain ⟨w, e2, rw2⟩ := rs2.get q4
              obtain ⟨g1, g2⟩ := (hJ H' vs ws hs hs2).2 i v w e1 e2
              refine ⟨g1, fun u H2 y => ?_⟩
              obtain ⟨T, rfl, nT, rfl⟩ := g2 u H2 y
              exact pair_new m1 rw1 rw2 nT
        · rw [if_neg e] at h; cases h
theorem pim_enL {e : Expr} {elts : List Expr} {kk : Nat} {tpos p : Pos} (ha : PAm X W [e] ms) (hg : Gl X "enumerate") (hm : X.mg "enumerate" = none) (hs : starEach [e] X.env = [(false, eval e X.env)] := by rfl) :
    PIm X W (.Tuple elts kk tpos) (.Call (.Name "enumerate" p) [e] [] pos) (iEnL ms) :=
  PI.weak (pi_enum hg hm ha hs) fun σ H R ⟨r, env, st, he, hm, h⟩ => ⟨r, env, st, he, hm, (Aft.split (rel := rVs X.K) h).imp fun vs H1 ⟨xs, r1, st1, x1, m1, rs, h1⟩ => by
    revert rs h1
    split <;> intro rs h1
    · rename_i x
      obtain ⟨v, rfl, rv⟩ := rvs_one rs
      cases q : lstOf st1 x with
      | none => rw [q] at h1; exact h1.elim
      | some ys =>
        rw [q] at h1
        obtain ⟨p, vs, rfl, hq, rs'⟩ := lst_at m1 q rv
        refine ⟨p, vs, rfl, hq, Aft.any h1 m1 (src_enu rv m1 fun H' ws hw => ?_)⟩
        have hw : SqL X.K H' p ws := by
          cases x with
          | tup _ => cases q
          | _ => exact hw
        exact ⟨⟨ws, hw, Nat.le_refl _⟩, fun i w e => ⟨⟨ws, w, hw, e⟩, fun u H2 ⟨T, x, e1, e2, e3, e4⟩ => ⟨T, e1, e2, by
          have := e4 ws hw
          rw [e] at this
          cases this
          exact e3⟩⟩⟩
    · exact h1.elim⟩
theorem pim_enT {e : Expr} {elts : List Expr} {kk : Nat} {tpos p : Pos} (ha : PAm X W [e] ms) (hg : Gl X "enumerate") (hm : X.mg "enumerate" = none) (hs : starEach [e] X.env = [(false, eval e X.env)] := by rfl) :
    PIm X W (.Tuple elts kk tpos) (.Call (.Name "enumerate" p) [e] [] pos) (iEnT ms) :=
  PI.weak (pi_enumT hg hm ha hs) fun σ H R ⟨r, env, st, he, hm, h⟩ => ⟨r, env, st, he, hm, (Aft.split (rel := rVs X.K) h).imp fun vs H1 ⟨xs, r1, st1, x1, m1, rs, h1⟩ => by
    revert rs h1
    split <;> intro rs h1
    · rename_i ys
      obtain ⟨v, rfl, rv⟩ := rvs_one rs
      have rv0 := rv
      cases rv with
      | @tup p vs _ ht rs' =>
        refine ⟨p, vs, rfl, ht, Aft.any h1 m1 (src_enu rv0 m1 fun H' ws hw => ?_)⟩
        have hw : SqT X.K H' p ws := hw
        exact ⟨⟨ws, hw, rfl⟩, fun i w e => ⟨⟨ws, w, hw, e⟩, fun u H2 ⟨T, x, e1, e2, e3, e4⟩ => ⟨T, e1, e2, by
          have := e4 ws hw
          rw [e] at this
          cases this
          exact e3⟩⟩⟩
    · exact h1.elim⟩
theorem zip_min {n a b : Nat} (h : min a b = n) : a ≤ n ∨ b ≤ n := by
  rw [← h]
  by_cases q : a ≤ b
  · exact .inl (by rw [Nat.min_eq_left q]; exact Nat.le_refl _)
  · exact .inr (by rw [Nat.min_eq_right (by omega)]; exact Nat.le_refl _)
theorem pim_zp {e e2 : Expr} {elts : List Expr} {kk : Nat} {tpos p : Pos} (ha : PAm X W [e, e2] ms) (hg : Gl X "zip") (hm : X.mg "zip" = none)
    (hs : starEach [e, e2] X.env = (false, eval e X.env) :: starEach [e2] X.env := by rfl) (hpl : (backTo pos (starEach [e2] X.env)).any (·.1) = false := by rfl) :
    PIm X W (.Tuple elts kk tpos) (.Call (.Name "zip" p) [e, e2] [] pos) (iZp ms) :=
  PI.weak (RZ.pi_zipA hg hm ha hs hpl) fun σ H R ⟨r, env, st, he, hm, h⟩ => ⟨r, env, st, he, hm, (Aft.split (rel := rVs X.K) h).imp fun vs H1 ⟨xs, r1, st1, x1, m1, rs, h1⟩ => by
    revert rs h1
    split <;> intro rs h1
    · rename_i ys zs
      obtain ⟨v, w, rfl, rv, rw'⟩ := rvs_two rs
      have rv0 := rv
      have rw0 := rw'
      cases rv with
      | @tup p vs _ ht rs1 =>
        cases rw' with
        | @tup q ws _ ht2 rs2 =>
          refine ⟨p, q, vs, ws, rfl, .inr ⟨ht, ht2, Aft.any h1 m1 (src_zip rv0 rw0 m1 fun H' vs' ws' hv hw => ?_)⟩⟩
          have hv : SqT X.K H' p vs' := hv
          have hw : SqT X.K H' q ws' := hw
          exact ⟨fun n e => ⟨vs', ws', hv, hw, zip_min e⟩, fun i v w e e' => ⟨⟨vs', ws', v, w, hv, hw, e, e'⟩, fun u H2 ⟨T, x, y, e1, e2, e3, e4, e5⟩ => ⟨T, e1, e2, by
            have h4 := e4 vs' hv
            rw [e] at h4
            cases h4
            have h5 := e5 ws' hw
            rw [e'] at h5
            cases h5
            exact e3⟩⟩⟩
    · rename_i x y _
      obtain ⟨v, w, rfl, rv, rw'⟩ := rvs_two rs
      cases q1 : lstOf st1 x with
      | none => rw [q1] at h1; exact h1.elim
      | some ys =>
        cases q2 : lstOf st1 y with
        | none => rw [q1, q2] at h1; exact h1.elim
        | some zs =>
          rw [q1, q2] at h1
          obtain ⟨p, vs, rfl, hq, rs1⟩ := lst_at m1 q1 rv
          obtain ⟨q, ws, rfl, hq2, rs2⟩ := lst_at m1 q2 rw'
          refine ⟨p, q, vs, ws, rfl, .inl ⟨hq, hq2, Aft.any h1 m1 (src_zip rv rw' m1 fun H' vs' ws' hv hw => ?_)⟩⟩
          have hv : SqL X.K H' p vs' := by
            cases x with
            | tup _ => cases q1
            | _ => exact hv
          have hw : SqL X.K H' q ws' := by
            cases y with
            | tup _ => cases q2
            | _ => exact hw
          exact ⟨fun n e => ⟨vs', ws', hv, hw, zip_min e⟩, fun i v w e e' => ⟨⟨vs', ws', v, w, hv, hw, e, e'⟩, fun u H2 ⟨T, x, y, e1, e2, e3, e4, e5⟩ => ⟨T, e1, e2, by
            have h4 := e4 vs' hv
            rw [e] at h4
            cases h4
            have h5 := e5 ws' hw
            rw [e'] at h5
            cases h5
            exact e3⟩⟩⟩
    · exact h1.elim⟩
end
end Sm

set_option Elab.async false
set_option linter.all false
set_option maxRecDepth 100000
set_option maxHeartbeats 4000000
namespace Sm
open L2 PySem PySem.Spec
/-! ### the own ==, isinstance of an own class -/
/-- what a class must have so that its instances are told by their class -/
structure ClsT (K : PySem.W.Frag) (c : Str) : Prop where
  cls : Cls K (He.ga K c)
  ha : PySem.W.findIn K (.ref (He.ga K c)) "__class__" = some (some (.builtin "object.__class__"))
  hn : PySem.W.specialIn K (.builtin "object.__class__") "__get__" = some (some (.builtin "getset_descriptor.__get__"))
  ht : PySem.W.takesIn K (.builtin "object.__class__") = some true
  hm : PySem.W.mroIn K (He.ga K c) (.type "object") = some true
def clsTb (K : PySem.W.Frag) (c : Str) : Bool := (He.Fa.cls c).ok K && (decide (PySem.W.findIn K (.ref (He.ga K c)) "__class__" = some (some (.builtin "object.__class__"))) && (decide (PySem.W.specialIn K (.builtin "object.__class__") "__get__" = some (some (.builtin "getset_descriptor.__get__"))) &&
  (decide (PySem.W.takesIn K (.builtin "object.__class__") = some true) && decide (PySem.W.mroIn K (He.ga K c) (.type "object") = some true))))
theorem clsT_ok {K : PySem.W.Frag} {c : Str} (h : clsTb K c = true) : ClsT K c := by
  unfold clsTb at h
  simp only [Bool.and_eq_true, decide_eq_true_eq] at h
  exact ⟨He.cls_ok h.1, h.2.1, h.2.2.1, h.2.2.2.1, h.2.2.2.2⟩
/-- the type's name of plain data, or the own class -/
inductive Ty where
  | bi (t : String)
  | own (c : Str)
def tyOf (st : Hs) (x : IV) : Option Ty := match tyName st x with
  | some t => some (.bi t)
  | none => match insOf st x with
    | some (c, _, _) => some (.own c)
    | none => none
def Ty.val (K : PySem.W.Frag) : Ty → Value
  | .bi t => .type t
  | .own c => .ref (He.ga K c)
section
variable {X : Cx} {W : WX} {r r' : List Addr} {H H' : Hp} {σ : L2.St} {env : Env} {st : Hs} {k : Nat} {pos : Pos}
theorem tyX_at (m : Mt X.K H r st) {x : IV} {v : V} {t : Ty} (h : tyOf st x = some t) (hc : ∀ c, t = .own c → ClsT X.K c) (rv : RV X.K H r x v) : TyX X.K H v (t.val X.K) := by
  unfold tyOf at h
  cases q : tyName st x with
  | some t' =>
    rw [q] at h
    cases h
    exact ty_at m q rv
  | none =>
    rw [q] at h
    cases q2 : insOf st x with
    | none => simp only [q2] at h; cases h
    | some z =>
      obtain ⟨c, ns, xs⟩ := z
      simp only [q2] at h
      cases h
      obtain ⟨p, dx, fs, rfl, e1, _⟩ := ins_at m q2 rv
      have T := hc c rfl
      exact .base (.ins e1 T.cls T.ha T.hn T.ht T.hm)
def biTys : List String := ["NoneType", "bool", "int", "str", "tuple", "list", "dict"]
theorem tyName_bi {x : IV} {t : String} (h : tyName st x = some t) : t ∈ biTys := by
  cases x with
  | ref a =>
    unfold tyName at h
    dsimp only at h
    split at h
    · cases h; decide
    · cases h; decide
    · cases h
  | obj _ _ _ => cases h
  | fd _ _ => cases h
  | cls _ => cases h
  | _ => cases h; decide
/-- isinstance(x, c), c one of our classes: cs, the classes that are known -/
def mIsC (cs : List Str) (c : Str) (m : ME) : ME := fun env => bnd (m env) fun x st => match tyOf st x with
  | some (.bi _) => .ok (.bl false) st
  | some (.own d) => if d ∈ cs then .ok (.bl (decide (d = c))) st else .no
  | none => .no
/-- the library's isinstance for these -/
structure IsF (K : PySem.W.Frag) (cs : List Str) (c : Str) : Prop where
  bi : ∀ t, t ∈ biTys → PySem.W.kitOne K (.type t) (.ref (He.ga K c)) = some false
  own : ∀ d, d ∈ cs → ClsT K d ∧ PySem.W.kitOne K (.ref (He.ga K d)) (.ref (He.ga K c)) = some (decide (d = c))
def isFb (K : PySem.W.Frag) (cs : List Str) (c : Str) : Bool := biTys.all (fun t => decide (PySem.W.kitOne K (.type t) (.ref (He.ga K c)) = some false)) && cs.all fun d => clsTb K d && decide (PySem.W.kitOne K (.ref (He.ga K d)) (.ref (He.ga K c)) = some (decide (d = c)))
theorem isF_ok {K : PySem.W.Frag} {cs : List Str} {c : Str} (h : isFb K cs c = true) : IsF K cs c := by
  unfold isFb at h
  simp only [Bool.and_eq_true, List.all_eq_true, decide_eq_true_eq] at h
  exact ⟨h.1, fun d hd => ⟨clsT_ok (h.2 d hd).1, (h.2 d hd).2⟩⟩
theorem pem_isC {cs : List Str} {c : Str} {a : Expr} {ma : ME} {p p2 : Pos} (F : IsF X.K cs c) (ha : PEm X W a ma) (hg : Gl X "isinstance") (hm : X.mg "isinstance" = none) (gC : Gl X c) (mC : X.mg c = some (.ref (He.ga X.K c))) (hdb : (c == ("__debug__" : Str)) = false := by decide)
    (s1 : starEach [a, .Name c p2] X.env = (false, eval a X.env) :: starEach [.Name c p2] X.env := by rfl) (s2 : starEach [.Name c p2] X.env = (false, eval (.Name c p2) X.env) :: starEach [] X.env := by rfl)
    (hpl : (backTo pos (starEach [.Name c p2] X.env)).any (·.1) = false := by rfl) : PEm X W (.Call (.Name "isinstance" p) [a, .Name c p2] [] pos) (mIsC cs c ma) :=
  PE.weak (pe_callB call_isi hg hm (by rfl) (pa_cons ha (pa_cons (pe_glob gC mC (v := .ref (He.ga X.K c)) rfl hdb) pa_nil s2) s1) (by decide) (by decide) s1 hpl) fun σ H Q ⟨r, env, st, he, hm, h⟩ => ⟨r, env, st, he, hm, h.split.imp fun v H1 ⟨x, r1, st1, x1, m1, rv, h1⟩ => by
    cases q : tyOf st1 x with
    | none => rw [q] at h1; exact h1.elim
    | some t =>
      rw [q] at h1
      cases t with
      | bi t =>
        have hb : t ∈ biTys := by
          unfold tyOf at q
          cases q1 : tyName st1 x with
          | some t' => rw [q1] at q; cases q; exact tyName_bi q1
          | none =>
            rw [q1] at q
            cases q2 : insOf st1 x with
            | none => simp only [q2] at q; cases q
            | some z => simp only [q2] at q; cases q
        exact ⟨v, .ref _, .type t, .ref _, false, rfl, .own _, tyX_at m1 q (fun c e => nomatch e) rv, F.bi t hb, h1 r1 H1 _ Xt.refl m1 (.bl _)⟩
      | own d =>
        dsimp only at h1
        by_cases hd : d ∈ cs
        · rw [if_pos hd] at h1
          obtain ⟨T, kk⟩ := F.own d hd
          exact ⟨v, .ref _, .ref _, .ref _, _, rfl, .own _, tyX_at m1 q (fun c e => by cases e; exact T) rv, kk, h1 r1 H1 _ Xt.refl m1 (.bl _)⟩
        · rw [if_neg hd] at h1; exact h1.elim⟩
/-- x == y by the own __eq__ of x's class; plain data as ever -/
def goOwn (f : List IV → M IV) (x y : IV) (st : Hs) (neg : Bool) : Option (IV × Hs) := match runC f [x, y] st with
  | .ok (.bl b) st' => some (.bl (b != neg), st')
  | _ => none
def oOwn (plain : O2) (neg : Bool) (alts : List (Str × (List IV → M IV))) : O2 := fun x y st => match tyOf st x, tyOf st y with
  | some (.own c), some (.own d) => if d = c then (match alts.lookup c with
    | some f => goOwn f x y st neg
    | none => none) else none
  | some (.own c), some (.bi _) => (match alts.lookup c with
    | some f => goOwn f x y st neg
    | none => none)
  | some (.bi _), some (.bi _) => plain x y st
  | _, _ => none
theorem nf_bi {K : PySem.W.Frag} {C : Addr} {t : String} (h : t ∈ biTys) : PySem.W.notFirst K C (.type t) = true := by
  have q : ∀ t ∈ biTys, (fastBuiltinMro t).map (fun l => l.all fun v => match v with
      | .type _ => true
      | _ => false) = some true := by decide +kernel
  have q := q t h
  unfold PySem.W.notFirst PySem.W.subIn
  cases e : fastBuiltinMro t with
  | none => rw [e] at q; cases q
  | some l =>
    rw [e] at q
    have q : (l.all fun v => match v with
      | .type _ => true
      | _ => false) = true := Option.some.inj q
    have z : l.contains (.ref C) = false := by
      cases c : l.contains (.ref C) with
      | false => rfl
      | true =>
        rw [List.contains_iff_mem] at c
        have := List.all_eq_true.mp q _ c
        cases this
    show (_ || ((fastBuiltinMro t).map (·.contains (Value.ref C)) == some false)) = true
    rw [e]
    show (_ || (some (l.contains (Value.ref C)) == some false)) = true
    rw [z]
    simp
/-- what is asked of the classes with an own == -/
structure EqF (P : Program) (w : World) (K : PySem.W.Frag) (mg : Str → Option Value) (base : Heap) (k : Nat) (alts : List (Str × (List IV → M IV))) : Prop where
  cal : ∀ c f, alts.lookup c = some f → CalM P w K mg base k c "__eq__" 2 f
  cls : ∀ c f, alts.lookup c = some f → ClsT K c
theorem own_run {alts : List (Str × (List IV → M IV))} (F : EqF X.prog X.w X.K X.mg X.base k alts) (hr : Room k X.A) (hgd : X.A.guards = some []) {c : Str} {f : List IV → M IV} (hf : alts.lookup c = some f) {pins : List (Addr × Obj)} {s : Shared} {x y : IV} {p : Addr} {y' : V} {u : Value} {dx : Addr} {fs : List (Str × V)} (I : Inv X pins σ H s)
    (m : Mt X.K H r st) (hx : RV X.K H r x (.ref p)) (hy : RV X.K H r y y') (ry : RelV y' u) (hp : H p = some (.ins (He.ga X.K c) dx fs)) {b : Bool} {st' : Hs} {Q : VK} (e : runC f [x, y] st = .ok (.bl b) st') (h : ∀ r' H', Xt r H r' H' → Mt X.K H' r' st' → Q (.bl b) H') :
    ∃ g, PySem.W.findIn X.K (.ref (He.ga X.K c)) "__eq__" = some (some (.ref g)) ∧ PySem.W.isFn X.K (.ref g) = true ∧ wpAny (model X.prog X.w) X.A (call (.ref g) [.ref p, u]) (fun v s' => v = .bool b ∧ EP X pins σ Q (.bool b) s') X.xe s := by
  obtain ⟨g, fd, ps, G, hps, cl, mt, hb⟩ := F.cal c f hf
  refine ⟨g, mt.at_, mt.fn, ?_⟩
  have hs : spM X.K X.mg f [V.ref p, y'] H (fun v H' => v = .bl b ∧ Q (.bl b) H') (WE W0 σ) := aft_sp (.cons hx (.cons hy .nil)) m (by
    rw [e]
    intro r' H' v x2 m2 rv
    have rv : RV X.K H' r' (.bl b) v := rv
    cases rv
    exact ⟨rfl, h r' H' x2 m2⟩)
  refine thn (run_g (us := [.ref p, u]) (vs := [V.ref p, y']) G hr hgd hb (pass_0 σ) I (.cons rfl (.cons ry .nil)) (by rw [hps]; rfl) hs) fun v s' ⟨z, H', I', rz, ez, q⟩ => ?_
  subst ez
  cases (show v = Value.bool b from rz)
  exact ⟨rfl, .bl b, H', I', rfl, q⟩
theorem own_pre {alts : List (Str × (List IV → M IV))} {plain : O2} {neg : Bool} {x y : IV} {z : IV × Hs} (h : oOwn plain neg alts x y st = some z) : (∃ t t', tyOf st x = some (.bi t) ∧ tyOf st y = some (.bi t') ∧ plain x y st = some z) ∨
    ∃ c f ty b st', tyOf st x = some (.own c) ∧ tyOf st y = some ty ∧ (ty = .own c ∨ ∃ t, ty = .bi t) ∧ alts.lookup c = some f ∧ runC f [x, y] st = .ok (.bl b) st' ∧ z = (.bl (b != neg), st') := by
  have go : ∀ {f : List IV → M IV}, goOwn f x y st neg = some z → ∃ b st', runC f [x, y] st = .ok (.bl b) st' ∧ z = (.bl (b != neg), st') := fun {f} h => by
    unfold goOwn at h
    split at h
    · rename_i b st' e
      cases h
      exact ⟨b, st', e, rfl⟩
    · cases h
  unfold oOwn at h
  split at h
  · rename_i c d e1 e2
    by_cases q : d = c
    · rw [if_pos q] at h
      subst q
      cases q2 : alts.lookup d with
      | none => rw [q2] at h; cases h
      | some f =>
        rw [q2] at h
        obtain ⟨b, st', e, rfl⟩ := go h
        exact .inr ⟨d, f, _, b, st', e1, e2, .inl rfl, q2, e, rfl⟩
    · rw [if_neg q] at h; cases h
  · rename_i c t e1 e2
    cases q2 : alts.lookup c with
    | none => rw [q2] at h; cases h
    | some f =>
      rw [q2] at h
      obtain ⟨b, st', e, rfl⟩ := go h
      exact .inr ⟨c, f, _, b, st', e1, e2, .inr ⟨_, rfl⟩, q2, e, rfl⟩
  · rename_i t t' e1 e2
    exact .inl ⟨t, t', e1, e2, h⟩
  · cases h
theorem tyOf_own {x : IV} {c : Str} (h : tyOf st x = some (.own c)) : ∃ ns xs, insOf st x = some (c, ns, xs) := by
  unfold tyOf at h
  cases q1 : tyName st x with
  | some t' => rw [q1] at h; cases h
  | none =>
    rw [q1] at h
    cases q2 : insOf st x with
    | none => simp only [q2] at h; cases h
    | some z =>
      obtain ⟨d, ns, xs⟩ := z
      simp only [q2] at h
      cases h
      exact ⟨ns, xs, rfl⟩
theorem tyOf_bi {x : IV} {t : String} (q : tyOf st x = some (.bi t)) : t ∈ biTys := by
  unfold tyOf at q
  cases q1 : tyName st x with
  | some t' => rw [q1] at q; cases q; exact tyName_bi q1
  | none =>
    rw [q1] at q
    cases q2 : insOf st x with
    | none => simp only [q2] at q; cases q
    | some z => simp only [q2] at q; cases q
/-- the type that the model sees -/
theorem looks_ty {pins : List (Addr × Obj)} {s : Shared} (I : Inv X pins σ H s) {v : V} {u t : Value} (rv : RelV v u) (h : TyX X.K H v t) : PySem.W.Looks (model X.prog X.w) s.heap (typeOf u) t := by
  obtain ⟨P, kx, hp, _⟩ := kit_of I rv h
  exact kx.ty _ _ I.kIn hp
theorem or_eqO {alts : List (Str × (List IV → M IV))} (hu : X.A.units + 64 < cLine) (F : EqF X.prog X.w X.K X.mg X.base k alts) (hr : Room k X.A) (hgd : X.A.guards = some []) : OpR X (compareOp .Eq) (rM2 X.K (oOwn oEq false alts)) := by
  intro pins s σ H x' y' v u Q I rx ry ⟨r, x, y, st, m, hx, hy, h⟩
  cases q : oOwn oEq false alts x y st with
  | none => rw [q] at h; exact h.elim
  | some z =>
    rw [q] at h
    rcases own_pre q with ⟨t, t', e1, e2, e3⟩ | ⟨c, f, ty, b, st', e1, e2, e3, e4, e5, rfl⟩
    · exact or_eq hu pins s σ H x' y' v u Q I rx ry ⟨r, x, y, st, m, hx, hy, by rw [e3]; exact h⟩
    · obtain ⟨ns, xs, ei⟩ := tyOf_own e1
      obtain ⟨p, dx, fs, rfl, hp, _⟩ := ins_at m ei hx
      cases (show v = Value.ref p from rx)
      obtain ⟨g, s1, s2, run⟩ := own_run F hr hgd e4 (Q := Q) I m hx hy ry hp e5 fun r' H' x2 m2 => by
        have := h r' H' (.bl b) x2 m2
        simp only [Bool.bne_false] at this
        exact this (.bl b)
      obtain ⟨mA, J, _⟩ := ins_get I.hok hp
      obtain ⟨od, J, _⟩ := J.look
      obtain ⟨mm, hF⟩ := I.fr
      have T := F.cls c f e4
      have tx := tyX_at m e2 (fun d hd => by
        rcases e3 with rfl | ⟨t, rfl⟩
        · cases hd; exact T
        · cases hd) hy
      show wpAny (model X.prog X.w) X.A (richCompare .Eq (.ref p) u) (EP X pins σ Q) X.xe s
      refine PySem.W.cmp_K (op := .Eq) (tb := ty.val X.K) (by omega) hF I.ok.mod.kin J (looks_ty I ry tx) ?_ s1 s2 (wpAny_mono run (fun w s' z => ?_) fun _ _ e => e)
      · rcases e3 with rfl | ⟨t, rfl⟩
        · simp [PySem.W.notFirst, Ty.val]
        · exact nf_bi (tyOf_bi e2)
      · obtain ⟨rfl, z⟩ := z
        exact z
end
end Sm

set_option Elab.async false
set_option linter.all false
set_option maxRecDepth 100000
set_option maxHeartbeats 4000000
namespace Sm
open L2 PySem PySem.Spec
/-! ### x != y by the own ==, object's != -/
theorem one_bind (self : Value) : bindSpecial (.builtin "object.__ne__") self = pure (.builtin "object.__ne__", [self]) :=
  (Slot.of (T := "object") (name := "__ne__") (owner := "object") (n := "__ne__") (by rw [typeLookup_type, builtinLookup_eq_fast]; kernel_rfl) (by decide +kernel) (by decide +kernel) (by decide +kernel)
    (.inl (by decide +kernel)) (by rw [isSubtype_type]; kernel_rfl)).bind self
theorem one_plain : plainId "object.__ne__" = true := by decide +kernel
section
variable {prog : Program} {w : World} {A : Around} {E : Value → Shared → Prop} {s : Shared} {K : PySem.W.Frag} {x C L : Addr} {h₀ : Heap} {m : Str → Option Value} {ox : Obj} {od : Option Obj} {b tb : Value} {f : Addr}
theorem objNe_K (hu : A.units < cLine) (X : K.In s.heap) (I : PySem.W.InstAt s.heap x ox C od) (hs : PySem.W.findIn K (.ref C) "__eq__" = some (some (.ref f))) (hf : PySem.W.isFn K (.ref f) = true) {Q : Fin → Shared → Prop}
    (hcall : wpAny (model prog w) A (call (.ref f) [.ref x, b]) (fun v s' => ∃ c, v = .bool c ∧ Q (.done (.ret (.bool (!c)))) s') E s) : wpAny (model prog w) A (Builtin.«object.__ne__» ⟨[.ref x, b], []⟩) Q E s := by
  unfold Builtin.«object.__ne__»
  repeat (first
    | with_reducible refine wpAny_cRoomFor hu ?_
    | (refine wpAny_bind (m := callSpecialIfBound? (.ref x) (Str.ofString "__eq__") [b])
        (PySem.W.ifBound_K X I hs hf (wpAny_mono hcall (fun r s' hr => by
          obtain ⟨b, rfl, hq⟩ := hr
          repeat (first | exact hq | exact wpAny_pure hq | exact wpAny_truthy_bool hq | (refine wpAny_bind (m := truthy (.bool _)) (wpAny_truthy_bool ?_)) | wp_step)) fun _ _ e => e)))
    | wp_step)
theorem ne_K {Q : Value → Shared → Prop} (hu : A.units + 1 < cLine) (X : K.In s.heap) (I : PySem.W.InstAt s.heap x ox C od) (hb : PySem.W.Looks (model prog w) s.heap (typeOf b) tb) (hn : PySem.W.notFirst K C tb = true)
    (hne : PySem.W.findIn K (.ref C) "__ne__" = some (some (.builtin "object.__ne__"))) (hm : PySem.W.mroIn K C (.type "object") = some true) (hs : PySem.W.findIn K (.ref C) "__eq__" = some (some (.ref f))) (hf : PySem.W.isFn K (.ref f) = true)
    (h : wpAny (model prog w) A.in1 (call (.ref f) [.ref x, b]) (fun v s' => ∃ c, v = .bool c ∧ Q (.bool (!c)) s') E s) : wpAny (model prog w) A (richCompare .NotEq (.ref x) b) Q E s := by
  have inner : wpAny (model prog w) A (call (.builtin "object.__ne__") [.ref x, b]) (fun v s' => ∃ c, v = .bool c ∧ Q v s') E s := by
    refine wpAny_call (codeAny_call_builtin one_plain F.cmpEntry_ne (@PySem.W.check_slot (model prog w) _ _ s "object.__ne__" "object" "__ne__" (.ref x) [b] [] _ F.cmpKind_ne F.cmpSplit_ne (I.type.andThen (PySem.W.looks_subIn X hm)) (F.cmpArgs_ne _ _) ?_))
    refine objNe_K (A := A.in1) hu X I hs hf (wpAny_mono h (fun v s' hv => ?_) fun _ _ e => e)
    obtain ⟨c, rfl, hq⟩ := hv
    exact ⟨c, rfl, !c, rfl, hq⟩
  have one : wpAny (model prog w) A (tryCompare (.ref x) "__ne__" b) (fun r s' => ∃ v, r = some v ∧ Q v s') E s := by
    unfold tryCompare
    have bnd : wpAny (model prog w) A (callSpecialIfBound? (.ref x) "__ne__" [b]) (fun r s' => ∃ c, r = some (.bool c) ∧ Q (.bool c) s') E s := by
      simp only [callSpecialIfBound?, bindSpecialIfBound?]
      refine wpAny_holding (wpAny_bind (wpAny_bind (wpAny_bind (I.type.here ((PySem.W.looks_findIn X hne).here ?_)))))
      refine wpAny_bind (wpAny_askSetting (wpAny_ite ?_))
      have fin : wpAny (model prog w) A (call (.builtin "object.__ne__") ([.ref x] ++ [b]) >>= fun v => pure (some v)) (fun r s' => ∃ c, r = some (.bool c) ∧ Q (.bool c) s') E s := wpAny_bind (wpAny_mono inner (fun v s' h' => wpAny_pure (by
        obtain ⟨c, rfl, hq⟩ := h'
        exact ⟨c, rfl, hq⟩)) fun _ _ h' => h')
      split
      · exact wpAny_bind ((PySem.W.Looks.of_pure (one_bind _)).here (wpAny_pure (by exact fin)))
      · exact wpAny_tryCatch (wpAny_bind ((PySem.W.Looks.of_pure (one_bind _)).here (wpAny_pure (by exact fin))))
    refine wpAny_bind (wpAny_mono bnd (fun r s' z => ?_) fun _ _ e => e)
    obtain ⟨c, rfl, hq⟩ := z
    exact wpAny_pure ⟨_, rfl, hq⟩
  unfold richCompare
  simp only [oneThing_ref]
  refine wpAny_holding (wpAny_bind (wpAny_cRoomFor (by omega) ?_))
  rw [cmpInfo_NotEq]
  dsimp only
  refine wpAny_bind (I.type.here (wpAny_bind (hb.here ?_)))
  split
  · rename_i q
    have e : PySem.W.subIn K tb (.ref C) = some false := by
      rcases Bool.or_eq_true_iff.mp hn with e | e
      · rw [beq_iff_eq.mp e] at q; simp at q
      · exact beq_iff_eq.mp e
    refine wpAny_bind ((PySem.W.looks_subIn X e).here ?_)
    simp only [Bool.false_eq_true, if_false]
    refine wpAny_bind (wpAny_mono one (fun r s' z => ?_) fun _ _ e => e)
    obtain ⟨v, rfl, hq⟩ := z
    exact wpAny_pure hq
  · refine wpAny_bind (wpAny_pure ?_)
    simp only [Bool.false_eq_true, if_false]
    refine wpAny_bind (wpAny_mono one (fun r s' z => ?_) fun _ _ e => e)
    obtain ⟨v, rfl, hq⟩ := z
    exact wpAny_pure hq
end
section
variable {X : Cx} {W : WX} {r r' : List Addr} {H H' : Hp} {σ : L2.St} {env : Env} {st : Hs} {k : Nat} {pos : Pos}
/-- the def's run one builtin further down -/
theorem run_in1 {g : Addr} {fd : FuncData} {ps : List Str} {mf : List IV → M IV} {pins : List (Addr × Obj)} {s : Shared} {Q : VK} {us : List Value} {vs : List V} (G : FnG X.prog X.w X.K X.mg X.base k g fd ps mf) (hr : Room (k + 1) X.A) (hgd : X.A.guards = some []) (hb : Binds X.K fd ps [])
    (I : Inv X pins σ H s) (rv : Vals vs us) (hl : vs.length = ps.length) (h : spM X.K X.mg mf vs H Q (WE (fun _ _ _ _ => False) σ)) : wpAny (model X.prog X.w) X.A.in1 (call (.ref g) us) (EP X pins σ Q) X.xe s := by
  have bt := hb s us I.kIn (by rw [List.append_nil, ← rv.length]; exact hl)
  rw [List.append_nil] at bt
  refine wpAny_call (codeAny_mono (G X.A.in1 X.stack s H ⟨us, []⟩ us vs Q _ hr.in1 hgd I.env0.in1 bt rv hl h) fun res s' z => ?_)
  match res, z with
  | .error u, z =>
    obtain ⟨_, _, _, _, _, _, _, _, _, _, _, _, z⟩ := z
    exact z.elim
  | .ok (.ret u), z => exact I.after z
  | .ok .next, z => exact z.elim
  | .ok .brk, z => exact z.elim
  | .ok .cont, z => exact z.elim
/-- what is asked of the classes with an own == and object's != -/
def NeF (K : PySem.W.Frag) (alts : List (Str × (List IV → M IV))) : Prop := ∀ c f, alts.lookup c = some f → PySem.W.findIn K (.ref (He.ga K c)) "__ne__" = some (some (.builtin "object.__ne__"))
theorem or_neO {alts : List (Str × (List IV → M IV))} (hu : X.A.units + 64 < cLine) (F : EqF X.prog X.w X.K X.mg X.base k alts) (N : NeF X.K alts) (hr : Room (k + 1) X.A) (hgd : X.A.guards = some []) : OpR X (compareOp .NotEq) (rM2 X.K (oOwn oNe true alts)) := by
  intro pins s σ H x' y' v u Q I rx ry ⟨r, x, y, st, m, hx, hy, h⟩
  cases q : oOwn oNe true alts x y st with
  | none => rw [q] at h; exact h.elim
  | some z =>
    rw [q] at h
    rcases own_pre q with ⟨t, t', e1, e2, e3⟩ | ⟨c, f, ty, b, st', e1, e2, e3, e4, e5, rfl⟩
    · exact or_ne hu pins s σ H x' y' v u Q I rx ry ⟨r, x, y, st, m, hx, hy, by rw [e3]; exact h⟩
    · obtain ⟨ns, xs, ei⟩ := tyOf_own e1
      obtain ⟨p, dx, fs, rfl, hp, _⟩ := ins_at m ei hx
      cases (show v = Value.ref p from rx)
      obtain ⟨g, fd, ps, G, hps, cl, mt, hb⟩ := F.cal c f e4
      have hs : spM X.K X.mg f [V.ref p, y'] H (fun v H' => v = .bl b ∧ Q (.bl (!b)) H') (WE (fun _ _ _ _ => False) σ) := aft_sp (W := fun _ _ _ _ => False) (.cons hx (.cons hy .nil)) m (by
        rw [e5]
        intro r' H' v x2 m2 rv
        have rv : RV X.K H' r' (.bl b) v := rv
        cases rv
        have := h r' H' (.bl (!b)) x2 m2
        simp only [Bool.bne_true] at this
        exact ⟨rfl, this (.bl (!b))⟩)
      obtain ⟨mA, J, _⟩ := ins_get I.hok hp
      obtain ⟨od, J, _⟩ := J.look
      have T := F.cls c f e4
      have tx := tyX_at m e2 (fun d hd => by
        rcases e3 with rfl | ⟨t, rfl⟩
        · cases hd; exact T
        · cases hd) hy
      show wpAny (model X.prog X.w) X.A (richCompare .NotEq (.ref p) u) (EP X pins σ Q) X.xe s
      refine ne_K (tb := ty.val X.K) (by omega) I.kIn J (looks_ty I ry tx) ?_ (N c f e4) T.hm mt.at_ mt.fn (thn (run_in1 (us := [.ref p, u]) (vs := [V.ref p, y']) G hr hgd hb I (.cons rfl (.cons ry .nil)) (by rw [hps]; rfl) hs) fun v s' ⟨z, H', I', rz, ez, q⟩ => ?_)
      · rcases e3 with rfl | ⟨t, rfl⟩
        · simp [PySem.W.notFirst, Ty.val]
        · exact nf_bi (tyOf_bi e2)
      · subst ez
        cases (show v = Value.bool b from rz)
        exact ⟨b, rfl, .bl (!b), H', I', rfl, q⟩
end
end Sm

set_option Elab.async false
set_option linter.all false
set_option maxRecDepth 100000
set_option maxHeartbeats 4000000
namespace Sm
open L2 PySem PySem.Spec
/-! ### len and str of instances, f-strings -/
abbrev Alts := List (Str × (List IV → M IV))
/-- the own def of x's class, called with x alone -/
def ownC (alts : Alts) (x : IV) (st : Hs) : Option (IV × Hs) := match tyOf st x with
  | some (.own c) => (match alts.lookup c with
    | some f => (match runC f [x] st with
      | .ok z st' => some (z, st')
      | _ => none)
    | none => none)
  | _ => none
def bLenO (alts : Alts) : On := fun xs st => match xs with
  | [x] => (match tyOf st x with
    | some (.own _) => (match ownC alts x st with
      | some (.int n, st') => if 0 ≤ n ∧ n < 2 ^ 63 then some (.int n, st') else none
      | _ => none)
    | _ => bLen [x] st)
  | _ => none
def bStrO (alts : Alts) : On := fun xs st => match xs with
  | [.int i] => if i.natAbs.log2 < 1920 then some (.str (toString i), st) else none
  | [x] => (match ownC alts x st with
    | some (.str z, st') => some (.str z, st')
    | _ => none)
  | _ => none
def mFmt (m : ME) : ME := fun env => bnd (m env) fun x st => match x with
  | .str y => if y.length ≤ big then .ok (.str y) st else .no
  | .int i => if i.natAbs.log2 < 1920 then .ok (.str (toString i)) st else .no
  | _ => .no
def goJs : List ME → Str → ME
  | [], acc => fun _ => ret (.str acc)
  | m :: ms, acc => fun env => bnd (m env) fun x st => match x with
    | .str y => if (acc ++ y).length ≤ big then goJs ms (acc ++ y) env st else .no
    | _ => .no
def mJs (ms : List ME) : ME := goJs ms Str.empty
section
variable {X : Cx} {W : WX} {r r' : List Addr} {H H' : Hp} {σ : L2.St} {env : Env} {st : Hs} {k : Nat} {pos : Pos} {alts : Alts} {nm : Str}
/-- what is asked of the classes' def of that name -/
def OwnF (P : Program) (w : World) (K : PySem.W.Frag) (mg : Str → Option Value) (base : Heap) (k : Nat) (nm : Str) (alts : Alts) : Prop := ∀ c f, alts.lookup c = some f → CalM P w K mg base k c nm 1 f
theorem ownC_at (F : OwnF X.prog X.w X.K X.mg X.base k nm alts) (m : Mt X.K H r st) {x : IV} {v : V} (hx : RV X.K H r x v) {z : IV} {st' : Hs} (e : ownC alts x st = some (z, st')) :
    ∃ p c dx fs g fd ps f, v = .ref p ∧ H p = some (.ins (He.ga X.K c) dx fs) ∧ FnG X.prog X.w X.K X.mg X.base k g fd ps f ∧ ps.length = 1 ∧ Binds X.K fd ps [] ∧ PySem.W.findIn X.K (.ref (He.ga X.K c)) nm = some (some (.ref g)) ∧ PySem.W.isFn X.K (.ref g) = true ∧
      ∀ Q : VK, (∀ r' H' w, Xt r H r' H' → Mt X.K H' r' st' → RV X.K H' r' z w → Q w H') → spM X.K X.mg f [V.ref p] H Q (WE (fun _ _ _ _ => False) σ) := by
  unfold ownC at e
  cases q : tyOf st x with
  | none => rw [q] at e; cases e
  | some t =>
    cases t with
    | bi t => rw [q] at e; cases e
    | own c =>
      rw [q] at e
      dsimp only at e
      cases q2 : alts.lookup c with
      | none => rw [q2] at e; cases e
      | some f =>
        rw [q2] at e
        dsimp only at e
        cases q3 : runC f [x] st with
        | no => rw [q3] at e; cases e
        | ex a s2 => rw [q3] at e; cases e
        | ok y s2 =>
          rw [q3] at e
          cases e
          obtain ⟨ns, xs, ei⟩ := tyOf_own q
          obtain ⟨p, dx, fs, rfl, hp, _⟩ := ins_at m ei hx
          obtain ⟨g, fd, ps, G, hps, cl, mt, hb⟩ := F c f q2
          exact ⟨p, c, dx, fs, g, fd, ps, f, rfl, hp, G, hps, hb, mt.at_, mt.fn, fun Q h => aft_sp (W := fun _ _ _ _ => False) (.cons hx .nil) m (by
            rw [q3]
            exact h)⟩
theorem cb_lenO (F : OwnF X.prog X.w X.K X.mg X.base k "__len__" alts) (hr : Room (k + 1) X.A) (hgd : X.A.guards = some []) : CallR X (.builtin "len") (rMs X.K (bLenO alts)) := by
  intro pins s σ H vs us Q I rv ⟨r, xs, st, m, rs, h⟩
  cases q : bLenO alts xs st with
  | none => rw [q] at h; exact h.elim
  | some z =>
    rw [q] at h
    have q0 := q
    unfold bLenO at q
    split at q
    · rename_i x
      split at q
      · rename_i c hty
        split at q
        · rename_i n st' e
          by_cases hn : 0 ≤ n ∧ n < 2 ^ 63
          · rw [if_pos hn] at q
            cases q
            obtain ⟨v, rfl, hx⟩ := rvs_one rs
            obtain ⟨p, c, dx, fs, g, fd, ps, f, rfl, hp, G, hps, hb, at_, fn, sp⟩ := ownC_at (σ := σ) F m hx e
            rw [Vals.ref1 rv]
            obtain ⟨mA, J, _⟩ := ins_get I.hok hp
            obtain ⟨od, J, _⟩ := J.look
            obtain ⟨mm, hF⟩ := I.fr
            refine PySem.W.len_K hF I.ok.mod.kin J at_ fn (thn (run_in1 (us := [.ref p]) (vs := [V.ref p]) G hr hgd hb I (.cons rfl .nil) (by rw [hps]; rfl) (sp (fun v H' => v = .int n ∧ Q (.int n) H') fun r' H' w x2 m2 rw1 => ?_)) fun v s' ⟨z, H', I', rz, ez, q⟩ => ?_)
            · cases rw1
              exact ⟨rfl, h r' H' _ x2 m2 (.int n)⟩
            · subst ez
              obtain ⟨tk, rfl⟩ := (show ∃ t, v = Value.int n t from rz)
              exact ⟨hn, .int n, H', I'.tok _, ⟨_, rfl⟩, q⟩
          · rw [if_neg hn] at q; cases q
        · cases q
      · exact cb_len pins s σ H vs us Q I rv ⟨r, [x], st, m, rs, by rw [q]; exact h⟩
    · cases q
theorem cb_strO (F : OwnF X.prog X.w X.K X.mg X.base k "__str__" alts) (hu : X.A.units + 64 < cLine) (hr : Room (k + 2) X.A) (hgd : X.A.guards = some []) : CallR X (.type "str") (rMs X.K (bStrO alts)) := by
  intro pins s σ H vs us Q I rv ⟨r, xs, st, m, rs, h⟩
  cases q : bStrO alts xs st with
  | none => rw [q] at h; exact h.elim
  | some z =>
    rw [q] at h
    unfold bStrO at q
    split at q
    · rename_i i
      by_cases hi : i.natAbs.log2 < 1920
      · rw [if_pos hi] at q
        cases q
        obtain ⟨v, rfl, hx⟩ := rvs_one rs
        cases hx
        exact call_str_int pins s σ H _ us Q I rv ⟨i, rfl, hi, h r H _ Xt.refl m (.str _)⟩
      · rw [if_neg hi] at q; cases q
    · rename_i x _
      split at q
      · rename_i y st' e
        cases q
        obtain ⟨v, rfl, hx⟩ := rvs_one rs
        obtain ⟨p, c, dx, fs, g, fd, ps, f, rfl, hp, G, hps, hb, at_, fn, sp⟩ := ownC_at (σ := σ) F m hx e
        rw [Vals.ref1 rv]
        obtain ⟨mA, J, _⟩ := ins_get I.hok hp
        obtain ⟨od, J, _⟩ := J.look
        have bt := hb s [Value.ref p] I.kIn (by rw [List.append_nil, hps]; rfl)
        rw [List.append_nil] at bt
        have spq := sp (fun v H' => v = .str y ∧ Q (.str y) H') fun r' H' w x2 m2 rw1 => by
          cases rw1
          exact ⟨rfl, h r' H' _ x2 m2 (.str y)⟩
        refine PySem.W.kso_call (by show X.A.units + 1 + 1 < _; omega) I.kIn J at_ fn (wpAny_call (codeAny_mono (G X.A.in1.in1 X.stack s H ⟨[.ref p], []⟩ [.ref p] [.ref p] _ _ hr.in1.in1 hgd I.env0.in1.in1 bt (.cons rfl .nil) (by rw [hps]; rfl) spq) fun res s' z => ?_))
        match res, z with
        | .error u, z =>
          obtain ⟨_, _, _, _, _, _, _, _, _, _, _, _, z⟩ := z
          exact z.elim
        | .ok (.ret u), z =>
          obtain ⟨v, H', I', rz, ez, q⟩ := I.after z
          subst ez
          obtain ⟨tk, rfl⟩ := (show ∃ t, u = Value.str y t from rz)
          exact ⟨.str y, H', I', ⟨tk, rfl⟩, q⟩
        | .ok .next, z => exact z.elim
        | .ok .brk, z => exact z.elim
        | .ok .cont, z => exact z.elim
      · cases q
    · cases q
theorem pem_fmt {e : Expr} {m : ME} (h : PEm X W e m) : PEm X W (.FormattedValue e (-1) none pos) (mFmt m) :=
  PE.weak (pe_fmt h) fun σ H Q ⟨r, env, st, he, hm, h⟩ => ⟨r, env, st, he, hm, (Aft.split (rel := rV X.K) h).imp fun v H1 ⟨x, r1, st1, x1, m1, rv, h1⟩ => by
    cases x with
    | str y =>
      cases rv
      by_cases q : y.length ≤ big
      · dsimp only at h1
        rw [if_pos q] at h1
        exact .inl ⟨y, rfl, by rw [← big_eq]; exact q, h1 r1 H1 _ Xt.refl m1 (.str _)⟩
      · dsimp only at h1
        rw [if_neg q] at h1; exact h1.elim
    | int i =>
      cases rv
      by_cases q : i.natAbs.log2 < 1920
      · dsimp only at h1
        rw [if_pos q] at h1
        exact .inr ⟨i, rfl, q, h1 r1 H1 _ Xt.refl m1 (.str _)⟩
      · dsimp only at h1
        rw [if_neg q] at h1; exact h1.elim
    | _ => exact h1.elim⟩
inductive PJm (X : Cx) (W : WX) : List Expr → List ME → Prop where
  | nil : PJm X W [] []
  | cons {e : Expr} {m : ME} {es : List Expr} {ms : List ME} (h : PEm X W e m) (t : PJm X W es ms) : PJm X W (e :: es) (m :: ms)
theorem PJm.pj {es : List Expr} {ms : List ME} (h : PJm X W es ms) : PJ X es (ms.map (tE X W)) := by
  induction h with
  | nil => exact .nil
  | cons h _ ih => exact .cons h ih
theorem js_of : ∀ (ms : List ME) (acc : Str) (σ : L2.St) (H : Hp) (Q : VK), tE X W (goJs ms acc) σ H Q → tJs (ms.map (tE X W)) acc σ H fun out H1 => Q (.str out) H1
  | [], acc, σ, H, Q, ⟨r, env, st, he, hm, h⟩ => h r H _ Xt.refl hm (.str _)
  | m :: ms, acc, σ, H, Q, ⟨r, env, st, he, hm, h⟩ => ⟨r, env, st, he, hm, (Aft.split (rel := rV X.K) h).imp fun v H1 ⟨x, r1, st1, x1, m1, rv, h1⟩ => by
    cases x with
    | str y =>
      cases rv
      dsimp only at h1
      by_cases q : (acc ++ y).length ≤ big
      · rw [if_pos q] at h1
        exact ⟨y, rfl, by rw [← big_eq]; exact q, js_of ms (acc ++ y) σ H1 Q ⟨r1, env, st1, he.mono x1 hm, m1, h1⟩⟩
      · rw [if_neg q] at h1; exact h1.elim
    | _ => exact h1.elim⟩
theorem pem_js {v1 v2 : Expr} {rest : List Expr} {ms : List ME} (h : PJm X W (v1 :: v2 :: rest) ms) : PEm X W (.JoinedStr (v1 :: v2 :: rest) pos) (mJs ms) :=
  PE.weak (pe_joined h.pj) fun σ H Q h => js_of ms _ σ H Q h
end
end Sm

set_option Elab.async false
set_option linter.all false
set_option maxRecDepth 100000
set_option maxHeartbeats 4000000
namespace Sm
open L2 PySem PySem.Spec
/-! ### sorted ints, list(range(..)) -/
def insI (y : Int) : List Int → List Int
  | [] => [y]
  | x :: xs => if y ≤ x then y :: x :: xs else x :: insI y xs
def srtI : List Int → List Int
  | [] => []
  | x :: xs => insI x (srtI xs)
theorem perm_insI {y : Int} : ∀ {l : List Int}, (insI y l).Perm (y :: l)
  | [] => .refl _
  | x :: xs => by
    unfold insI
    by_cases h : y ≤ x
    · rw [if_pos h]
    · rw [if_neg h]
      exact (perm_insI.cons x).trans (.swap ..)
theorem perm_srtI : ∀ {l : List Int}, (srtI l).Perm l
  | [] => .refl _
  | x :: xs => perm_insI.trans (perm_srtI.cons x)
theorem ord_insI {y : Int} : ∀ {l : List Int}, l.Pairwise (· ≤ ·) → (insI y l).Pairwise (· ≤ ·)
  | [], _ => by simp [insI]
  | x :: xs, h => by
    obtain ⟨h1, h2⟩ := List.pairwise_cons.mp h
    unfold insI
    by_cases q : y ≤ x
    · rw [if_pos q]
      refine List.pairwise_cons.mpr ⟨fun z hz => ?_, h⟩
      rcases List.mem_cons.mp hz with e | e
      · rw [e]; exact q
      · exact Int.le_trans q (h1 z e)
    · rw [if_neg q]
      refine List.pairwise_cons.mpr ⟨fun z hz => ?_, ord_insI h2⟩
      rcases List.mem_cons.mp (perm_insI.mem_iff.mp hz) with e | e
      · omega
      · exact h1 z e
theorem ord_srtI : ∀ {l : List Int}, (srtI l).Pairwise (· ≤ ·)
  | [] => .nil
  | x :: xs => ord_insI ord_srtI
theorem ord_ext : ∀ {l k : List Int}, l.Pairwise (· ≤ ·) → k.Pairwise (· ≤ ·) → l.Perm k → l = k
  | [], k, _, _, h => h.nil_eq
  | x :: l, [], _, _, h => h.symm.nil_eq.symm
  | x :: l, y :: k, a, b, h => by
    obtain ⟨a1, a2⟩ := List.pairwise_cons.mp a
    obtain ⟨b1, b2⟩ := List.pairwise_cons.mp b
    have e : x = y := by
      rcases List.mem_cons.mp (h.mem_iff.mp (List.mem_cons_self)) with p | p
      · exact p
      · rcases List.mem_cons.mp (h.mem_iff.mpr (List.mem_cons_self)) with q | q
        · exact q.symm
        · have := b1 x p; have := a1 y q; omega
    subst e
    rw [ord_ext a2 b2 (List.Perm.cons_inv h)]
def intsOf : List IV → Option (List Int)
  | [] => some []
  | .int i :: xs => (intsOf xs).map (i :: ·)
  | _ => none
def bSorted : On := fun xs st => match xs with
  | [x] => (lstOf st x).bind fun ys => (intsOf ys).bind fun ns => if ns.length < 64 then some (.ref st.length, st ++ [.lst ((srtI ns).map .int)]) else none
  | _ => none
def mLsRg (m : ME) : ME := fun env => bnd (m env) fun x st => match x with
  | .int n => if -4611686018427387904 ≤ n ∧ n ≤ 16777216 then .ok (.ref st.length) (st ++ [.lst ((List.range n.toNat).map fun (i : Nat) => .int i)]) else .no
  | _ => .no
section
variable {X : Cx} {W : WX} {r r' : List Addr} {H H' : Hp} {σ : L2.St} {env : Env} {st : Hs} {pos : Pos}
theorem ints_at {K : PySem.W.Frag} : ∀ {xs : List IV} {ns : List Int} {vs : List V}, intsOf xs = some ns → RVs K H r xs vs → vs = ns.map V.int
  | [], _, _, h, .nil => by cases h; rfl
  | .int i :: xs, ns, _, h, .cons q t => by
    cases q
    unfold intsOf at h
    cases k : intsOf xs with
    | none => rw [k] at h; cases h
    | some ms =>
      rw [k] at h
      cases h
      rw [ints_at k t]
      rfl
  | .non :: _, _, _, h, _ => by cases h
  | .bl _ :: _, _, _, h, _ => by cases h
  | .str _ :: _, _, _, h, _ => by cases h
  | .tup _ :: _, _, _, h, _ => by cases h
  | .rl _ :: _, _, _, h, _ => by cases h
  | .ref _ :: _, _, _, h, _ => by cases h
  | .obj _ _ _ :: _, _, _, h, _ => by cases h
  | .fd _ _ :: _, _, _, h, _ => by cases h
  | .cls _ :: _, _, _, h, _ => by cases h
theorem cb_sorted : CallR X (.builtin "sorted") (rMs X.K bSorted) := CallR.weak cr_sorted fun vs H Q h0 => by
  obtain ⟨r, xs, st, z, st', e, rs, m, h⟩ := rMs_inv h0
  unfold bSorted at e
  split at e
  · rename_i x
    obtain ⟨v, rfl, rv⟩ := rvs_one rs
    obtain ⟨ys, e1, e2⟩ := Option.bind_eq_some_iff.mp e
    obtain ⟨ns, e3, e4⟩ := Option.bind_eq_some_iff.mp e2
    by_cases q : ns.length < 64
    · rw [if_pos q] at e4
      cases e4
      obtain ⟨p, ws, rfl, hq, rs2⟩ := lst_at m e1 rv
      rw [ints_at e3 rs2] at hq
      refine ⟨p, ns, rfl, hq, q, fun ns' a h1 h2 hn => ?_⟩
      have e5 : ns' = srtI ns := ord_ext h2 ord_srtI (h1.trans perm_srtI.symm)
      subst e5
      exact h (r ++ [a]) _ _ (Xt.new hn) (m.new hn ⟨_, upd_same, rvs_ints _⟩) (RV.last m)
    · rw [if_neg q] at e4; cases e4
  · cases e
theorem pem_lsRg {a : Expr} {ma : ME} {p p2 cpos : Pos} (hc : X.calm = true) (ha : PEm X W a ma) (hg : Gl X "list") (hm : X.mg "list" = none) (hg2 : Gl X "range") (hm2 : X.mg "range" = none)
    (n1 : starEach [a] X.env = (false, eval a X.env) :: starEach [] X.env := by rfl) (n2 : starEach [.Call (.Name "range" p2) [a] [] cpos] X.env = (false, eval (.Call (.Name "range" p2) [a] [] cpos) X.env) :: starEach [] X.env := by rfl) :
    PEm X W (.Call (.Name "list" p) [.Call (.Name "range" p2) [a] [] cpos] [] pos) (mLsRg ma) :=
  PE.weak (pe_listRg hc hg hm (prg_1 hg2 hm2 ha n1) n2) fun σ H Q ⟨r, env, st, he, hm, h⟩ => ⟨r, env, st, he, hm, (Aft.split (rel := rV X.K) h).imp fun v H1 ⟨x, r1, st1, x1, m1, rv, h1⟩ => by
    cases x with
    | int n =>
      cases rv
      dsimp only at h1
      by_cases q : -4611686018427387904 ≤ n ∧ n ≤ 16777216
      · rw [if_pos q] at h1
        refine ⟨n, rfl, ⟨by decide, by decide, by omega, by omega, by omega⟩, fun a hn => ?_⟩
        refine h1 (r1 ++ [a]) _ _ (Xt.new hn) (m1.new hn ⟨_, upd_same, ?_⟩) (RV.last m1)
        have e : ((List.range n.toNat).map fun (i : Nat) => IV.int (i : Int)) = ((List.range n.toNat).map fun (i : Nat) => (i : Int)).map .int := by rw [List.map_map]; rfl
        have e' : rgV 0 n = ((List.range n.toNat).map fun (i : Nat) => (i : Int)).map V.int := by
          unfold rgV
          rw [List.map_map, Int.sub_zero]
          refine List.map_congr_left fun i _ => ?_
          show V.int (0 + (i : Int)) = V.int i
          rw [Int.zero_add]
        rw [e, e']
        exact rvs_ints _
      · rw [if_neg q] at h1; exact h1.elim
    | _ => exact h1.elim⟩
end
end Sm

set_option Elab.async false
set_option linter.all false
set_option maxRecDepth 100000
set_option maxHeartbeats 4000000
namespace Sm
open L2 PySem PySem.Spec PyProof.Rows HT
/-! ### t[::-1], t a tuple -/
theorem adjust_rev (n : Nat) : Builtin.Slice.sliceAdjust none none (-1) (n : Int) = ((n : Int) - 1, -1) := rfl
theorem places_rev (n : Nat) : Builtin.Slice.slicePlaces ((n : Int) - 1) (-1) (-1) = n := by
  unfold Builtin.Slice.slicePlaces
  rw [if_neg (by decide)]
  by_cases h : (n : Int) - 1 > -1
  · rw [if_pos h]
    have e : ((n : Int) - 1 - -1 - 1) / (- -1) + 1 = n := by
      rw [Int.neg_neg, Int.ediv_one]
      omega
    rw [e, Int.toNat_natCast]
  · rw [if_neg h]
    have : n = 0 := by omega
    rw [this]
    rfl
theorem fm_congr {α β : Type} {f g : α → Option β} : ∀ {l : List α}, (∀ k ∈ l, f k = g k) → l.filterMap f = l.filterMap g
  | [], _ => rfl
  | x :: l, h => by
    rw [List.filterMap_cons, List.filterMap_cons, h x List.mem_cons_self, fm_congr fun k hk => h k (List.mem_cons_of_mem _ hk)]
theorem pick_rev (xs : Array Value) : ((List.range xs.size).filterMap fun (k : Nat) => xs[((xs.size : Int) - 1 + (k : Int) * -1).toNat]?) = xs.toList.reverse := by
  have g : ∀ (l : List Value), ((List.range l.length).filterMap fun (k : Nat) => l[((l.length : Int) - 1 + (k : Int) * -1).toNat]?) = l.reverse := fun l => by
    refine List.ext_getElem? fun i => ?_
    have e : (List.range l.length).filterMap (fun (k : Nat) => l[((l.length : Int) - 1 + (k : Int) * -1).toNat]?) = (List.range l.length).filterMap (fun (k : Nat) => some (l.reverse[k]?.getD .none)) := by
      refine fm_congr fun k hk => ?_
      rw [List.mem_range] at hk
      have e1 : ((l.length : Int) - 1 + (k : Int) * -1).toNat = l.length - 1 - k := by omega
      rw [e1, List.getElem?_eq_getElem (by omega), List.getElem?_reverse (by omega), List.getElem?_eq_getElem (by omega)]
      rfl
    rw [e]
    have e2 : (List.range l.length).filterMap (fun (k : Nat) => some (l.reverse[k]?.getD .none)) = (List.range l.length).map (fun (k : Nat) => l.reverse[k]?.getD .none) := by
      rw [List.filterMap_eq_map']
    rw [e2, List.getElem?_map]
    by_cases hi : i < l.length
    · rw [List.getElem?_range hi, List.getElem?_eq_getElem (by rw [List.length_reverse]; exact hi)]
      show some ((l.reverse[i]?).getD .none) = _
      rw [List.getElem?_eq_getElem (by rw [List.length_reverse]; exact hi)]
      rfl
    · rw [List.getElem?_eq_none (by rw [List.length_range]; omega), List.getElem?_eq_none (by rw [List.length_reverse]; omega)]
      rfl
  have := g xs.toList
  simp only [Array.length_toList, Array.getElem?_toList] at this
  exact this
section
variable {prog : Program} {w : World} {A : Around} {E : Value → Shared → Prop} {s : Shared}
theorem sliceApplied_rev {sl : Addr} {vl vu vs : Value} {n : Nat} {Q : Int × Int × Nat → Shared → Prop} (hs : s.heap.IsSliceOf sl vl vu vs) (pl : IsPart vl none) (pu : IsPart vu none) (ps : IsPart vs (some (-1)))
    (h : Q ((n : Int) - 1, -1, n) s) : wpAny (model prog w) A (Builtin.Slice.sliceApplied (.ref sl) (pure (n : Int))) Q E s := by
  obtain ⟨os, hos, hcs, hds⟩ := id hs
  unfold Builtin.Slice.sliceApplied Builtin.Slice.sliceFields
  refine wpAny_bind (wpAny_bind (wpAny_field hos hds (x := vl) rfl (wpAny_bind (wpAny_field hos hds (x := vu) rfl (wpAny_bind (wpAny_field hos hds (x := vs) rfl (wpAny_pure ?_)))))))
  refine wpAny_bind (slicePart_ ps ?_)
  show wpAny _ _ (if ((-1 : Int) == 0) = true then _ else _) _ _ s
  rw [if_neg (by decide)]
  refine wpAny_bind (slicePart_ pl (wpAny_bind (slicePart_ pu (wpAny_bind (wpAny_pure ?_)))))
  show wpAny _ _ (match Builtin.Slice.sliceAdjust none none (-1) (n : Int) with | (lo, hi) => pure (lo, (-1 : Int), Builtin.Slice.slicePlaces lo hi (-1))) _ _ s
  rw [adjust_rev n]
  show wpAny _ _ (pure ((n : Int) - 1, (-1 : Int), Builtin.Slice.slicePlaces ((n : Int) - 1) (-1) (-1))) _ _ s
  rw [places_rev]
  exact wpAny_pure h
theorem getItem_tuple_rev {t sl : Addr} {items : Array Value} {vl vu vs : Value} {Q : Value → Shared → Prop} (ht : IsTup s.heap t items) (hs : s.heap.IsSliceOf sl vl vu vs) (pl : IsPart vl none) (pu : IsPart vu none) (ps : IsPart vs (some (-1)))
    (h : Q (.ref s.heap.objs.size) { s with heap := s.heap.push { cls := .type "tuple", data := .seq items.toList.reverse.toArray } })
    (hsz : items.size ≤ sizeLine) : wpAny (model prog w) A (getItem (.ref t) (.ref sl)) Q E s := by
  have htake : sizeOk (.seq items.toList.reverse.toArray) := by
    show (items.toList.reverse.toArray).size ≤ sizeLine
    rw [List.size_toArray, List.length_reverse, Array.length_toList]
    exact hsz
  obtain ⟨os, hos, hcs, hds⟩ := id hs
  have hTs : s.TypeIs (.ref sl) "slice" := ⟨os, hos, hcs⟩
  unfold getItem
  try with_reducible refine wpAny_holding ?_
  first | refine wpAny_bind (wpAny_pure ?_) | skip
  refine wpAny_bind (wpAny_sequenceKey ht.typeIs (by decide) ?_)
  refine wpAny_bind (wpAny_callSpecial?_slot (name := Str.ofString "__getitem__") ht.typeIs PyProof.Rows.slot_tuple_getitem
    (wpAny_call_entry PyProof.Rows.slot_tuple_getitem ht.typeIs entry_tuple_getitem ?_ (args_tuple_getitem _ _)))
  show wpAny _ _ (Builtin.Tuple.tupleItemsOf (.ref t) >>= _) _ _ s
  refine wpAny_bind (tupleItemsOf_ ht ?_)
  refine wpAny_bind (wpAny_typeOf hTs ?_)
  rw [if_pos (by decide)]
  refine wpAny_bind (sliceApplied_rev hs pl pu ps ?_)
  have hno : ¬ (((items.size : Int) - 1 == 0 && (-1 : Int) == 1 && items.size == items.size) = true) := by simp
  show wpAny _ _ (if ((items.size : Int) - 1 == 0 && (-1 : Int) == 1 && items.size == items.size) = true then _ else _) _ _ s
  rw [if_neg hno, pick_rev]
  first
    | exact wpAny_bind (m := Builtin.Tuple.tupleExact _) (wpAny_newObj_type (wpAny_pure ⟨_, rfl, wpAny_pure h⟩) htake)
    | exact wpAny_bind (m := Builtin.Tuple.tupleExact _) (wpAny_newObj_type (wpAny_bind (wpAny_pure (wpAny_pure ⟨_, rfl, wpAny_pure h⟩))) htake)
    | exact wpAny_bind (wpAny_bind (m := Builtin.Tuple.tupleExact _) (wpAny_newObj_type (wpAny_pure (wpAny_pure ⟨_, rfl, wpAny_pure h⟩)) htake))
    | exact wpAny_bind (wpAny_bind (m := Builtin.Tuple.tupleExact _) (wpAny_newObj_type (wpAny_pure ⟨_, rfl, wpAny_pure h⟩) htake))
end
/-- the mirror -/
def mRevT (m : ME) : ME := fun env => bnd (m env) fun x st => match x with
  | .tup xs => .ok (.tup xs.reverse) st
  | _ => .no
section
variable {X : Cx} {W : WX} {pos : Pos}
theorem rvs_rev {K : PySem.W.Frag} {H : Hp} {r : List Addr} : ∀ {xs : List IV} {vs : List V}, RVs K H r xs vs → RVs K H r xs.reverse vs.reverse
  | _, _, .nil => .nil
  | _, _, .cons (x := x) (xs := xs) (v := v) (vs := vs) a t => by
    rw [List.reverse_cons, List.reverse_cons]
    exact (rvs_rev t).append (.cons a .nil)
theorem pe_revT {e : Expr} {te : TE} {k : Nat} {p1 p2 p3 pos : Pos} (he : PE X e te) : PE X (.Subscript e (.Slice none none (some (.UnaryOp .USub (.Constant (.int 1) k p1) p2)) p3) pos)
    (fun σ H Q => te σ H fun x H1 => ∃ a xs, x = .ref a ∧ SqT X.K H1 a xs ∧ ∀ p, H1 p = none → Q (.ref p) (upd H1 p (.tup xs.reverse))) := by
  refine ⟨fun pins s σ H Q I h => ?_⟩
  refine PyProof.Rows.Subscript_ (thn (he.run pins s σ H _ I h) fun v s1 ⟨x, H1, I1, r1, a, xs, ex, hx, q⟩ => ?_)
  subst ex
  cases r1
  have hst : PO X (some (.UnaryOp .USub (.Constant (.int 1) k p1) p2)) (tPart (tUn (rU fun i => .int (-i)) (tC (.int 1)))) := po_some (pe_un un_neg pe_int)
  refine wpAny_Slice (thn (po_none.run pins s1 σ H1 (fun o H2 => o = none ∧ H2 = H1) I1 ⟨rfl, rfl⟩) fun vl s2 ⟨l, H2, I2, pl, el, e2⟩ => ?_)
  subst el e2
  refine thn (po_none.run pins s2 σ H2 (fun o H3 => o = none ∧ H3 = H2) I2 ⟨rfl, rfl⟩) fun vu s3 ⟨u, H3, I3, pu, eu, e3⟩ => ?_
  subst eu e3
  refine thn (hst.run pins s3 σ H3 (fun o H4 => o = some (-1) ∧ H4 = H3) I3 ⟨1, rfl, -1, rfl, rfl, rfl⟩) fun vs s4 ⟨o, H4, I4, ps, eo, e4⟩ => ?_
  subst eo e4
  have I5 : Inv X pins σ H4 { s4 with heap := s4.heap.push { cls := .type "slice", data := .fields #[vl, vu, vs] } } := I4.kept (t' := s4.toks) fun b ob q => Heap.get?_push_of_some _ q
  obtain ⟨its, r, ht, hz⟩ := I5.tuple hx
  have hlen := r.length
  show wpAny (model X.prog X.w) X.A (subscriptTail e (.Slice none none (some (.UnaryOp .USub (.Constant (.int 1) k p1) p2)) p3) (.ref a) (.ref s4.heap.objs.size)) (EP X pins σ Q) X.xe { s4 with heap := s4.heap.push { cls := .type "slice", data := .fields #[vl, vu, vs] } }
  refine tail_any (ops := [.ref a, .ref s4.heap.objs.size]) ht.typeIs (PyProof.Rows.slot_tuple_getitem.lookup) ?_ (by with_unfolding_all rfl)
  refine getItem_tuple_rev ht (Heap.IsSliceOf.new _ vl vu vs) pl pu ps ?_ (by rw [List.size_toArray]; omega)
  refine ⟨.ref _, _, I5.laid (t' := s4.toks) (o := .tup xs.reverse) (fun b ob q => Heap.get?_push_of_some _ q) (Nat.le_refl _) ?_, rfl, q _ (I5.hok.fresh (Nat.le_refl _))⟩
  exact ⟨by rw [List.length_reverse]; exact hz, _, r.reverse, ⟨_, Heap.get?_push_size _ rfl, rfl, _, rfl⟩⟩
theorem pem_revT {e : Expr} {m : ME} {k : Nat} {p1 p2 p3 : Pos} (he : PEm X W e m) : PEm X W (.Subscript e (.Slice none none (some (.UnaryOp .USub (.Constant (.int 1) k p1) p2)) p3) pos) (mRevT m) :=
  PE.weak (pe_revT he) fun σ H Q ⟨r, env, st, he, hm, h⟩ => ⟨r, env, st, he, hm, (Aft.split (rel := rV X.K) h).imp fun v H1 ⟨x, r1, st1, x1, m1, rv, h1⟩ => by
    cases x with
    | tup xs =>
      cases rv with
      | tup ht rs => exact ⟨_, _, rfl, ht, fun p hn => h1 r1 _ _ (Xt.aside hn) (m1.aside hn) (.tup (.inl (.inl upd_same)) (rvs_rev (rs.mono (Xt.aside hn) m1)))⟩
    | _ => exact h1.elim⟩
end
end Sm

set_option Elab.async false
set_option linter.all false
set_option maxRecDepth 100000
set_option maxHeartbeats 4000000
namespace Sm
open L2 PySem PySem.Spec
/-! ### the head with facts of one's own -/
abbrev Gs := List (PySem.W.Frag → Bool)
def obsS (fa : List He.Fa) (gs : Gs) (fn : List He5.DefA) (K : PySem.W.Frag) : He.AlD := ((fa.all fun f => f.ok K) && ((gs.all fun g => g K) && fn.all fun d => d.ok K), fn.map fun d => He5.fnA K (d.at_ K))
def valS (fn : List He5.DefA) : He.AlD := (true, fn.map He5.DefA.val)
def SaysS (fa : List He.Fa) (gs : Gs) (fn : List He5.DefA) (K : PySem.W.Frag) : Prop := obsS fa gs fn K = valS fn
def obsSG (n : Nat) (fa : List He.Fa) (gs : Gs) (fn : List He5.DefA) (g : Addr → Option Obj) : He.AlD := obsS fa gs fn (He.frG g (He5.asA g n))
def hookS (n : Nat) (fa : List He.Fa) (gs : Gs) (fn : List He5.DefA) : PySem.W.Hook where
  α := He.AlD
  obs := fun s => obsSG n fa gs fn s.heap.get?
  val := fun _ => valS fn
  says := fun _ h => ∃ K : PySem.W.Frag, K.In h ∧ SaysS fa gs fn K
  of := fun _ _ e => ⟨_, He.frG_in, e⟩
  keeps := fun _ _ _ ⟨K, hK, c⟩ k => ⟨K, PySem.W.Frag.In.keeps hK k, c⟩
theorem obsSG_eq {n : Nat} {fa : List He.Fa} {gs : Gs} {fn : List He5.DefA} {g : Addr → Option Obj} {s : Shared} (h : ∀ a, g a = s.heap.get? a) : obsSG n fa gs fn g = (hookS n fa gs fn).obs s := by
  have e : g = s.heap.get? := funext h
  rw [e] <;> rfl
section
variable {fa : List He.Fa} {gs : Gs} {fn : List He5.DefA} {K : PySem.W.Frag}
theorem SaysS.all (c : SaysS fa gs fn K) : (∀ f ∈ fa, f.ok K = true) ∧ (∀ g ∈ gs, g K = true) ∧ (∀ d ∈ fn, d.ok K = true) := by
  have c1 : ((fa.all fun f => f.ok K) && ((gs.all fun g => g K) && fn.all fun d => d.ok K)) = true := congrArg (fun z : He.AlD => z.1) c
  simp only [Bool.and_eq_true, List.all_eq_true] at c1
  exact c1
theorem SaysS.fact (c : SaysS fa gs fn K) (i : Nat) {f : He.Fa} (h : fa[i]? = some f := by rfl) : f.ok K = true := c.all.1 f (List.mem_of_getElem? h)
theorem SaysS.own (c : SaysS fa gs fn K) (i : Nat) {g : PySem.W.Frag → Bool} (h : gs[i]? = some g := by rfl) : g K = true := c.all.2.1 g (List.mem_of_getElem? h)
theorem SaysS.def_ (c : SaysS fa gs fn K) (i : Nat) {d : He5.DefA} (h : fn[i]? = some d := by rfl) : ∃ fd, L2.FunD K d.name d.qual d.params d.body d.scope (d.dvs K) (d.kws K) (d.at_ K) fd := by
  have e : fn.map (fun d => He5.fnA K (d.at_ K)) = fn.map He5.DefA.val := congrArg (fun z : He.AlD => z.2) c
  have e2 : (fn.map fun d => He5.fnA K (d.at_ K))[i]? = (fn.map He5.DefA.val)[i]? := by rw [e]
  rw [List.getElem?_map, List.getElem?_map, h] at e2
  exact He5.DefA.funD (Option.some.inj e2) (c.all.2.2 d (List.mem_of_getElem? h))
/-! properties -/
def propB (c f : Str) (K : PySem.W.Frag) : Bool := decide (PySem.W.findIn K (.ref (He.ga K c)) f = some (some (.ref (He.ma K (He.ga K c) f)))) && (decide (PySem.W.specialIn K (.ref (He.ma K (He.ga K c) f)) "__get__" = some (some (.builtin "property.__get__"))) &&
  (decide (PySem.W.takesIn K (.ref (He.ma K (He.ga K c) f)) = some true) && (match PySem.W.recIn K (He.ma K (He.ga K c) f) "property" with
    | some (.ref g :: _) => decide (g = He5.wf K (He.ga K c) "property" f)
    | _ => false)))
theorem propB_ok {c f : Str} (h : propB c f K = true) : PropOf K (He.ga K c) f (He.ma K (He.ga K c) f) (He5.wf K (He.ga K c) "property" f) := by
  unfold propB at h
  simp only [Bool.and_eq_true, decide_eq_true_eq] at h
  obtain ⟨h1, h2, h3, h4⟩ := h
  refine ⟨h1, h2, h3, ?_⟩
  split at h4
  · rename_i g rest e
    have q : g = _ := of_decide_eq_true h4
    exact ⟨rest, by rw [e, q]⟩
  · cases h4
/-! a keyword-only default that is the empty tuple -/
def kwdAt (p : PySem.W.Frag → Addr) (x : Str) (K : PySem.W.Frag) : Addr := match K.lookup (p K) with
  | some ⟨_, _, .func fd, _⟩ => (match fd.kwdefaults with
    | .ref D => (match PySem.W.nsIn K D x with
      | some (some (.ref a)) => a
      | _ => 0)
    | _ => 0)
  | _ => 0
def emptyT (a : PySem.W.Frag → Addr) (K : PySem.W.Frag) : Bool := match K.lookup (a K) with
  | some ⟨.type t, _, .seq its _, _⟩ => t == "tuple" && its.isEmpty
  | _ => false
theorem emptyT_ok {a : PySem.W.Frag → Addr} {H : Hp} (h : emptyT a K = true) : SqT K H (a K) [] := by
  unfold emptyT at h
  split at h
  · rename_i t od its n sl e
    simp only [Bool.and_eq_true, beq_iff_eq] at h
    obtain ⟨rfl, h2⟩ := h
    have e2 : its = #[] := by simpa using h2
    subst e2
    exact .inr ⟨_, #[], n, e, rfl, rfl, by decide, .nil⟩
  · cases h
end
/-! making, methods, properties: out of the head's facts -/
def DefAtC (K : PySem.W.Frag) (mg : Str → Option Value) (c q : Str) (t : Stmt) (ps : List Str) (n : Nat) (ks : List Str) (gI : List IV → List IV → List IV) : Prop :=
  ∃ f fd g gV, Fun K "__init__" q t f fd ∧ Mk K (He.ga K c) f ∧ mg c = some (.ref (He.ga K c)) ∧ KBn K fd ps (n + 1) ks g gV ∧
    (∀ (H : Hp) (r : List Addr) (v : V) (xs ys : List IV) (vs zs : List V), RVs K H r xs vs → RVs K H r ys zs → xs.length = n → ys.length = ks.length → ∃ us, gV (v :: vs) zs = v :: us ∧ RVs K H r (gI xs ys) us ∧ us.length + 1 = ps.length)
def DefAtP (K : PySem.W.Frag) (c m q : Str) (t : Stmt) (x : Str) : Prop := ∃ g p fd, Fun K m q t g fd ∧ Cls K (He.ga K c) ∧ PropOf K (He.ga K c) m p g ∧ Binds K fd [x] []
section
variable {P : Program} {w : World} {K : PySem.W.Frag} {mg : Str → Option Value} {base : Heap} {k n : Nat} {c m q : Str} {t : Stmt} {N ps ks : List Str} {gI : List IV → List IV → List IV} {b : MS}
theorem calC_of (D : DefAtC K mg c q t ps n ks gI) (S : FnScope N ps (defScope t))
    (hb : ∀ (f : Addr) (cd : Value) (A : Around) (fr : List PySem.Env) (s : Shared) (H : Hp) (E : XK), Bd k (bX P w K mg base N q t f cd A fr s H E) (fun cls d _ H' => E cls d H') → PSsm (bX P w K mg base N q t f cd A fr s H E) (fun cls d _ H' => E cls d H') (defBody t) b) :
    CalC P w K mg base (k + 1) c n ks gI (mDef N.length b) := by
  obtain ⟨f, fd, g, gV, F, M, e, B, R⟩ := D
  exact ⟨f, fd, ps, g, gV, fng_of F S (hb f), M, e, B, R⟩
/-- with the keywords given -/
theorem defAtC_kw {kws : List (Str × V)} (h : ∃ fd, FunD K "__init__" q (defArgs t) (defBody t) (defScope t) [] kws (He.ma K (He.ga K c) "__init__") fd) (M : Mk K (He.ga K c) (He.ma K (He.ga K c) "__init__")) (e : mg c = some (.ref (He.ga K c)))
    (B : ∀ fd, FunD K "__init__" q (defArgs t) (defBody t) (defScope t) [] kws (He.ma K (He.ga K c) "__init__") fd → ∃ mv : List Value, KBn K fd ps (n + 1) ks (fun us ws => us ++ ws) (fun vs zs => vs ++ zs)) (hl : n + ks.length + 1 = ps.length) : DefAtC K mg c q t ps n ks (fun xs ys => xs ++ ys) := by
  obtain ⟨fd, F⟩ := h
  obtain ⟨mv, B⟩ := B fd F
  refine ⟨_, fd, _, _, He5.fun_of F, M, e, B, fun H r v xs ys vs zs rx ry lx ly => ⟨vs ++ zs, rfl, rx.append ry, ?_⟩⟩
  rw [List.length_append, ← rx.length, ← ry.length, lx, ly]
  exact hl
/-- with one keyword left out, whose default is the empty tuple -/
theorem defAtC_et {kws : List (Str × V)} {a : PySem.W.Frag → Addr} (h : ∃ fd, FunD K "__init__" q (defArgs t) (defBody t) (defScope t) [] kws (He.ma K (He.ga K c) "__init__") fd) (M : Mk K (He.ga K c) (He.ma K (He.ga K c) "__init__")) (e : mg c = some (.ref (He.ga K c))) (E : emptyT a K = true)
    (B : ∀ fd, FunD K "__init__" q (defArgs t) (defBody t) (defScope t) [] kws (He.ma K (He.ga K c) "__init__") fd → ∃ mv : List Value, KBn K fd ps (n + 1) [] (fun us ws => us ++ mv) (fun vs zs => vs ++ [.ref (a K)])) (hl : n + 1 + 1 = ps.length) : DefAtC K mg c q t ps n [] (fun xs _ => xs ++ [.tup []]) := by
  obtain ⟨fd, F⟩ := h
  obtain ⟨mv, B⟩ := B fd F
  refine ⟨_, fd, _, _, He5.fun_of F, M, e, B, fun H r v xs ys vs zs rx ry lx ly => ⟨vs ++ [.ref (a K)], rfl, rx.append (.cons (.tup (emptyT_ok E) .nil) .nil), ?_⟩⟩
  rw [List.length_append, ← rx.length, lx]
  exact hl
theorem defAtM_mk (h : ∃ fd, FunD K m q (defArgs t) (defBody t) (defScope t) [] [] (He.ma K (He.ga K c) m) fd) (C : Cls K (He.ga K c)) (M : Meth K (He.ga K c) m (He.ma K (He.ga K c) m))
    (b : ∀ (kV doc pm : Value) (an : Option Addr) (cdv ct : Value) (us : List Value), us.length = ps.length → bindArgs (PySem.W.fnOf m q (defArgs t) (defBody t) (defScope t) .none kV doc pm an cdv ct) ⟨us, []⟩ = pure (ps.zip us)) : DefAtM K c m q t ps := by
  obtain ⟨fd, F⟩ := h
  exact ⟨_, fd, He5.fun_of F, C, M, Fun.binds (He5.fun_of F) b⟩
theorem defAtP_mk {x : Str} (h : ∃ fd, FunD K m q (defArgs t) (defBody t) (defScope t) [] [] (He5.wf K (He.ga K c) "property" m) fd) (C : Cls K (He.ga K c)) (p : propB c m K = true)
    (b : ∀ (kV doc pm : Value) (an : Option Addr) (cdv ct : Value) (us : List Value), us.length = [x].length → bindArgs (PySem.W.fnOf m q (defArgs t) (defBody t) (defScope t) .none kV doc pm an cdv ct) ⟨us, []⟩ = pure ([x].zip us)) : DefAtP K c m q t x := by
  obtain ⟨fd, F⟩ := h
  exact ⟨_, _, fd, He5.fun_of F, C, propB_ok p, Fun.binds (He5.fun_of F) b⟩
theorem calP_of {x : Str} (D : DefAtP K c m q t x) (S : FnScope N [x] (defScope t))
    (hb : ∀ (f : Addr) (cd : Value) (A : Around) (fr : List PySem.Env) (s : Shared) (H : Hp) (E : XK), Bd k (bX P w K mg base N q t f cd A fr s H E) (fun cls d _ H' => E cls d H') → PSsm (bX P w K mg base N q t f cd A fr s H E) (fun cls d _ H' => E cls d H') (defBody t) b) :
    CalP P w K mg base (k + 1) c m (mDef N.length b) := by
  obtain ⟨g, p, fd, F, C, O, B⟩ := D
  exact ⟨g, p, fd, [x], fng_of F S (hb g), rfl, C, O, B⟩
end
end Sm

set_option Elab.async false
set_option linter.all false
set_option maxRecDepth 100000
set_option maxHeartbeats 4000000
namespace Sm
open L2 PySem PySem.Spec
/-! ### tables of own defs by the class -/
theorem alts_nil {p : Str → (List IV → M IV) → Prop} : ∀ c' f', ([] : Alts).lookup c' = some f' → p c' f' := fun _ _ h => by cases h
theorem alts_cons {p : Str → (List IV → M IV) → Prop} {c : Str} {f : List IV → M IV} {l : Alts} (h : p c f) (t : ∀ c' f', l.lookup c' = some f' → p c' f') : ∀ c' f', ((c, f) :: l).lookup c' = some f' → p c' f' := fun c' f' e => by
  rw [List.lookup_cons] at e
  by_cases q : (c' == c) = true
  · rw [q] at e
    have e : some f = some f' := e
    cases e
    rw [beq_iff_eq.mp q]
    exact h
  · have q : (c' == c) = false := by simpa using q
    rw [q] at e
    exact t c' f' e
section
variable {P : Program} {w : World} {K : PySem.W.Frag} {mg : Str → Option Value} {base : Heap} {j k n : Nat} {c m : Str} {ks : List Str} {gI : List IV → List IV → List IV} {mf : List IV → M IV} {alts : Alts}
theorem CalM.mono (C : CalM P w K mg base j c m n mf) (h : j ≤ k) : CalM P w K mg base k c m n mf := by
  obtain ⟨f, fd, ps, F, q⟩ := C
  exact ⟨f, fd, ps, F.mono h, q⟩
theorem CalP.mono (C : CalP P w K mg base j c m mf) (h : j ≤ k) : CalP P w K mg base k c m mf := by
  obtain ⟨g, p, fd, ps, F, q⟩ := C
  exact ⟨g, p, fd, ps, F.mono h, q⟩
theorem CalC.mono (C : CalC P w K mg base j c n ks gI mf) (h : j ≤ k) : CalC P w K mg base k c n ks gI mf := by
  obtain ⟨f, fd, ps, g, gV, F, q⟩ := C
  exact ⟨f, fd, ps, g, gV, F.mono h, q⟩
theorem eqF_mk (h : ∀ c f, alts.lookup c = some f → CalM P w K mg base k c "__eq__" 2 f) (t : ∀ c f, alts.lookup c = some f → ClsT K c) : EqF P w K mg base k alts := ⟨h, t⟩
/-! which fields may be asked of which class -/
def okOf (l : List (Str × Str)) : OkF := fun c f => decide ((c, f) ∈ l)
theorem clsF_mk {l : List (Str × Str)} (h : ∀ p ∈ l, Cls K (He.ga K p.1) ∧ NoAttr K (He.ga K p.1) p.2) : ClsF K (okOf l) := fun c f e => h (c, f) (of_decide_eq_true e)
end
/-! a list taken apart -/
def gTl (n : Nat) (gs : MGs) : MG := fun x env st => match lstOf st x with
  | some xs => if xs.length = n then gs xs env st else .no
  | none => .no
section
variable {X : Cx} {pos : Pos}
theorem pgm_lst {tgs : List Expr} {k n : Nat} {gs : MGs} {sl : List Nat} (hc : X.calm = true) (h : PGsm X sl tgs gs)
    (hn : (assignEach tgs X.env).length = n := by rfl) (hst : (assignEach tgs X.env).findIdx? (·.1) = none := by rfl) : PGm X sl (.Tuple tgs k pos) (gTl n gs) := PG.weak (pg_lst hc h hn hst) fun v σ H Q ⟨r, env, st, x, he, hm, rv, h⟩ => by
  unfold gTl at h
  cases q1 : lstOf st x with
  | none => rw [q1] at h; exact h.elim
  | some xs =>
    rw [q1] at h
    dsimp only at h
    by_cases q : xs.length = n
    · rw [if_pos q] at h
      obtain ⟨p, vs, rfl, hq, rs⟩ := lst_at hm q1 rv
      exact ⟨p, vs, rfl, hq, by rw [← rs.length]; exact q, r, env, st, xs, he, hm, rs, h⟩
    · rw [if_neg q] at h; exact h.elim
end
end Sm

set_option Elab.async false
set_option linter.all false
set_option maxRecDepth 100000
set_option maxHeartbeats 4000000
namespace Sm
open L2 PySem PySem.Spec
/-! ### dicts with keys: ints and texts -/
def keyI : L2.Key → IV
  | .inl i => .int i
  | .inr z => .str z
def keyOf : IV → Option L2.Key
  | .int i => some (.inl i)
  | .str z => some (.inr z)
  | _ => none
/-- the keys and values of a dict -/
def dctI (st : Hs) : IV → Option (List (L2.Key × IV))
  | .fd ks xs => if ks.length = xs.length then some (ks.zip xs) else none
  | .ref a => match st[a]? with
    | some (.dct kvs) => some kvs
    | _ => none
  | _ => none
def valI (kvs : List (L2.Key × IV)) (k : L2.Key) : Option IV := (kvs.find? fun q => decide (q.1 = k)).map fun q => q.2
def putD (kvs : List (L2.Key × IV)) (k : L2.Key) (x : IV) : List (L2.Key × IV) := if (kvs.any fun q => decide (q.1 = k)) = true then kvs.map (fun q => if q.1 = k then (q.1, x) else q) else kvs ++ [(k, x)]
section
variable {K : PySem.W.Frag} {H : Hp} {r : List Addr} {st : Hs}
theorem key_at {y : IV} {v : V} {k : L2.Key} (h : keyOf y = some k) (rv : RV K H r y v) : v = kV k := by
  cases rv with
  | int i => cases h; rfl
  | str z => cases h; rfl
  | _ => cases h
theorem keyI_at (k : L2.Key) : RV K H r (keyI k) (kV k) := by
  cases k with
  | inl i => exact .int i
  | inr z => exact .str z
/-- a dict as it lies -/
structure DcR (K : PySem.W.Frag) (H : Hp) (r : List Addr) (kvs : List (L2.Key × IV)) (dk : List (L2.Key × V)) : Prop where
  ks : dk.map (fun q => q.1) = kvs.map (fun q => q.1)
  vs : RVs K H r (kvs.map fun q => q.2) (dk.map fun q => q.2)
theorem DcR.mono {r' : List Addr} {H' : Hp} {kvs : List (L2.Key × IV)} {dk : List (L2.Key × V)} (x : Xt r H r' H') (m : Mt K H r st) (h : DcR K H r kvs dk) : DcR K H' r' kvs dk := ⟨h.ks, h.vs.mono x m⟩
theorem DcR.length {kvs : List (L2.Key × IV)} {dk : List (L2.Key × V)} (h : DcR K H r kvs dk) : dk.length = kvs.length := by
  have := congrArg List.length h.ks
  simpa using this
theorem zip_fst {α β : Type} : ∀ {xs : List α} {ys : List β}, xs.length = ys.length → (xs.zip ys).map (fun q => q.1) = xs
  | [], [], _ => rfl
  | x :: xs, y :: ys, h => by
    rw [List.zip_cons_cons, List.map_cons, zip_fst (by simpa using h)]
theorem zip_snd {α β : Type} : ∀ {xs : List α} {ys : List β}, xs.length = ys.length → (xs.zip ys).map (fun q => q.2) = ys
  | [], [], _ => rfl
  | x :: xs, y :: ys, h => by
    rw [List.zip_cons_cons, List.map_cons, zip_snd (by simpa using h)]
theorem dct_at (m : Mt K H r st) {x : IV} {v : V} {kvs : List (L2.Key × IV)} (h : dctI st x = some kvs) (rv : RV K H r x v) : ∃ p dk, v = .ref p ∧ Rd H p (.dK dk) ∧ DcR K H r kvs dk := by
  cases rv with
  | fd h1 e1 e2 hs =>
    subst e1 e2
    unfold dctI at h
    dsimp only at h
    split at h
    · rename_i q
      cases h
      exact ⟨_, _, rfl, .inr ⟨_, h1⟩, (zip_fst q).symm, by rw [zip_snd q]; exact hs⟩
    · cases h
  | @ref a p hp =>
    unfold dctI at h
    dsimp only at h
    split at h
    · rename_i kvs' k
      cases h
      obtain ⟨dk, e1, e2, hs⟩ := m.at_ _ _ _ k hp
      exact ⟨p, dk, rfl, .inl e1, e2, hs⟩
    · cases h
  | _ => cases h
theorem dcR_nil : DcR K H r [] [] := ⟨rfl, .nil⟩
theorem DcR.inv {k : L2.Key} {x : IV} {kvs : List (L2.Key × IV)} {dk : List (L2.Key × V)} (h : DcR K H r ((k, x) :: kvs) dk) : ∃ v dk', dk = (k, v) :: dk' ∧ RV K H r x v ∧ DcR K H r kvs dk' := by
  cases dk with
  | nil => cases h.ks
  | cons q dk' =>
    obtain ⟨k', v⟩ := q
    have e := h.ks
    rw [List.map_cons, List.map_cons] at e
    injection e with e1 e2
    have e1 : k' = k := e1
    subst e1
    have hv := h.vs
    rw [List.map_cons, List.map_cons] at hv
    cases hv with
    | cons a b => exact ⟨v, dk', rfl, a, e2, b⟩
theorem DcR.cons {k : L2.Key} {x : IV} {v : V} {kvs : List (L2.Key × IV)} {dk : List (L2.Key × V)} (a : RV K H r x v) (h : DcR K H r kvs dk) : DcR K H r ((k, x) :: kvs) ((k, v) :: dk) := ⟨by rw [List.map_cons, List.map_cons, h.ks], .cons a h.vs⟩
theorem val_at (k : L2.Key) : ∀ {kvs : List (L2.Key × IV)} {dk : List (L2.Key × V)}, DcR K H r kvs dk → (valI kvs k = none ∧ valV dk k = none) ∨ ∃ x v, valI kvs k = some x ∧ valV dk k = some v ∧ RV K H r x v
  | [], dk, h => by
    have e := h.ks
    cases dk with
    | nil => exact .inl ⟨rfl, rfl⟩
    | cons q r => cases e
  | (j, x) :: kvs, dk, h => by
    obtain ⟨v, dk', rfl, a, b⟩ := h.inv
    by_cases q : j = k
    · exact .inr ⟨x, v, by simp [valI, List.find?_cons, q], valV_pos q, a⟩
    · have e1 : valI ((j, x) :: kvs) k = valI kvs k := by simp [valI, List.find?_cons, q]
      rw [e1, valV_neg (p := (j, v)) q]
      exact val_at k b
theorem anyK_at (k : L2.Key) : ∀ {kvs : List (L2.Key × IV)} {dk : List (L2.Key × V)}, DcR K H r kvs dk → (dk.any fun q => decide (q.1 = k)) = (kvs.any fun q => decide (q.1 = k))
  | [], dk, h => by
    have e := h.ks
    cases dk with
    | nil => rfl
    | cons q r => cases e
  | (j, x) :: kvs, dk, h => by
    obtain ⟨v, dk', rfl, a, b⟩ := h.inv
    rw [List.any_cons, List.any_cons, anyK_at k b]
theorem map_at {k : L2.Key} {y : IV} {w : V} (rw1 : RV K H r y w) : ∀ {kvs : List (L2.Key × IV)} {dk : List (L2.Key × V)}, DcR K H r kvs dk → DcR K H r (kvs.map fun q => if q.1 = k then (q.1, y) else q) (dk.map fun q => if q.1 = k then (q.1, w) else q)
  | [], dk, h => by
    have e := h.ks
    cases dk with
    | nil => exact dcR_nil
    | cons q r => cases e
  | (j, x) :: kvs, dk, h => by
    obtain ⟨v, dk', rfl, a, b⟩ := h.inv
    rw [List.map_cons, List.map_cons]
    by_cases q : j = k
    · rw [if_pos q, if_pos q]
      exact .cons rw1 (map_at rw1 b)
    · rw [if_neg q, if_neg q]
      exact .cons a (map_at rw1 b)
theorem snoc_at {k : L2.Key} {y : IV} {w : V} (rw1 : RV K H r y w) {kvs : List (L2.Key × IV)} {dk : List (L2.Key × V)} (h : DcR K H r kvs dk) : DcR K H r (kvs ++ [(k, y)]) (dk ++ [(k, w)]) := ⟨by rw [List.map_append, List.map_append, h.ks]; rfl, by
  rw [List.map_append, List.map_append]
  exact h.vs.append (.cons rw1 .nil)⟩
theorem putD_at {k : L2.Key} {y : IV} {w : V} (rw1 : RV K H r y w) {kvs : List (L2.Key × IV)} {dk : List (L2.Key × V)} (h : DcR K H r kvs dk) : DcR K H r (putD kvs k y) (putK dk k w) := by
  unfold putD putK
  rw [anyK_at k h]
  by_cases q : (kvs.any fun q => decide (q.1 = k)) = true
  · rw [if_pos q, if_pos q]
    exact map_at rw1 h
  · rw [if_neg q, if_neg q]
    exact snoc_at rw1 h
end
section
variable {X : Cx} {W : WX} {pos pos' : Pos} {a b c : Expr} {ma mb mc : ME} {r r' : List Addr} {H H' : Hp} {σ : L2.St} {env : Env} {st : Hs}
/-! d[k] -/
def mDgt (a b : ME) : ME := fun env => bnd (a env) fun x => bnd (b env) fun y => fun st => match dctI st x, keyOf y with
  | some kvs, some k => (match valI kvs k with
    | some z => .ok z st
    | none => .no)
  | _, _ => .no
theorem pem_dgt (hu : X.A.units + 64 < cLine) (ha : PEm X W a ma) (hb : PEm X W b mb) (hs : NoSl b := by intro _ _; rfl) : PEm X W (.Subscript a b pos) (mDgt ma mb) :=
  PE.weak (pe_dget (by omega) ha hb hs) fun σ H Q ⟨r, env, st, he, hm, h⟩ => ⟨r, env, st, he, hm, (Aft.split (rel := rV X.K) h).imp fun v H1 ⟨x, r1, st1, x1, m1, rv, h1⟩ =>
    ⟨r1, env, st1, he.mono x1 hm, m1, (Aft.split (rel := rV X.K) h1).imp fun w H2 ⟨y, r2, st2, x2, m2, rw2, h2⟩ => by
      cases k1 : dctI st2 x with
      | none => simp only [k1] at h2; exact h2.elim
      | some kvs =>
        cases k2 : keyOf y with
        | none => simp only [k1, k2] at h2; exact h2.elim
        | some k =>
          simp only [k1, k2] at h2
          obtain ⟨p, dk, rfl, e1, D⟩ := dct_at m2 k1 (rv.mono x2 m1)
          rcases val_at k D with ⟨n1, n2⟩ | ⟨z, u, n1, n2, rz⟩
          · rw [n1] at h2; exact h2.elim
          · rw [n1] at h2
            exact ⟨p, u, rfl, by rw [← n2, key_at k2 rw2]; exact .inl ⟨dk, k, e1, rfl, rfl⟩, h2 r2 H2 u Xt.refl m2 rz⟩⟩⟩
/-! k in d -/
def oInD : O2 := fun x y st => match dctI st y, keyOf x with
  | some kvs, some k => some (.bl (valI kvs k).isSome, st)
  | _, _ => none
def oNotInD : O2 := fun x y st => match dctI st y, keyOf x with
  | some kvs, some k => some (.bl (!(valI kvs k).isSome), st)
  | _, _ => none
theorem isSome_at {K : PySem.W.Frag} {k : L2.Key} {kvs : List (L2.Key × IV)} {dk : List (L2.Key × V)} (h : DcR K H r kvs dk) : (valV dk k).isSome = (valI kvs k).isSome := by
  rcases val_at k h with ⟨n1, n2⟩ | ⟨z, u, n1, n2, _⟩ <;> rw [n1, n2] <;> rfl
theorem pem_inD (hu : X.A.units + 64 < cLine) (ha : PEm X W a ma) (hb : PEm X W b mb) (hm : behindInMarks .In b = false := by first | exact nomark _ | rfl | with_unfolding_all rfl) : PEm X W (.Compare a [.In] [b] pos) (mBin oInD ma mb) :=
  PE.weak (pe_cmp (pc_din (by omega) ha hb) hm) fun σ H Q ⟨r, env, st, he, hm, h⟩ => ⟨r, env, st, he, hm, (Aft.split (rel := rV X.K) h).imp fun v H1 ⟨x, r1, st1, x1, m1, rv, h1⟩ =>
    ⟨r1, env, st1, he.mono x1 hm, m1, (Aft.split (rel := rV X.K) h1).imp fun w H2 ⟨y, r2, st2, x2, m2, rw2, h2⟩ => by
      unfold oInD at h2
      cases k1 : dctI st2 y with
      | none => simp only [k1] at h2; exact h2.elim
      | some kvs =>
        cases k2 : keyOf x with
        | none => simp only [k1, k2] at h2; exact h2.elim
        | some k =>
          simp only [k1, k2] at h2
          obtain ⟨p, dk, rfl, e1, D⟩ := dct_at m2 k1 rw2
          exact ⟨p, valV dk k, rfl, by rw [key_at k2 rv]; exact .inl ⟨dk, k, e1, rfl, rfl⟩, by rw [isSome_at D]; exact h2 r2 H2 _ Xt.refl m2 (.bl _)⟩⟩⟩
theorem pem_notInD (hu : X.A.units + 64 < cLine) (ha : PEm X W a ma) (hb : PEm X W b mb) (hm : behindInMarks .NotIn b = false := by first | exact nomark _ | rfl | with_unfolding_all rfl) : PEm X W (.Compare a [.NotIn] [b] pos) (mBin oNotInD ma mb) :=
  PE.weak (pe_cmp (pc_dnotin (by omega) ha hb) hm) fun σ H Q ⟨r, env, st, he, hm, h⟩ => ⟨r, env, st, he, hm, (Aft.split (rel := rV X.K) h).imp fun v H1 ⟨x, r1, st1, x1, m1, rv, h1⟩ =>
    ⟨r1, env, st1, he.mono x1 hm, m1, (Aft.split (rel := rV X.K) h1).imp fun w H2 ⟨y, r2, st2, x2, m2, rw2, h2⟩ => by
      unfold oNotInD at h2
      cases k1 : dctI st2 y with
      | none => simp only [k1] at h2; exact h2.elim
      | some kvs =>
        cases k2 : keyOf x with
        | none => simp only [k1, k2] at h2; exact h2.elim
        | some k =>
          simp only [k1, k2] at h2
          obtain ⟨p, dk, rfl, e1, D⟩ := dct_at m2 k1 rw2
          exact ⟨p, valV dk k, rfl, by rw [key_at k2 rv]; exact .inl ⟨dk, k, e1, rfl, rfl⟩, by rw [isSome_at D]; exact h2 r2 H2 _ Xt.refl m2 (.bl _)⟩⟩⟩
/-! d[k] = v -/
def sDpt (mo mi mv : ME) : MS := sE mv fun v => sE mo fun x => sE mi fun y env st => match x, keyOf y with
  | .ref a, some k => (match st[a]? with
    | some (.dct kvs) => if kvs.length < big then .nx env (st.set a (.dct (putD kvs k v))) else .no
    | _ => .no)
  | _, _ => .no
theorem psm_dpt (hu : X.A.units + 64 < cLine) (ho : PEm X W a ma) (hi : PEm X W b mb) (hv : PEm X W c mc) (hs : swapsWith c (some (.Subscript a b pos')) pos.line X.env = pure false := by rfl) : PSm X W (.Assign [.Subscript a b pos'] c pos) (sDpt ma mb mc) :=
  PS.weak (ps_dput (by omega) ho hi hv hs) fun D σ H ⟨r, env, st, he, hm, h⟩ => ⟨r, env, st, he, hm, (AftS.exp (rel := rV X.K) he hm h).imp fun v' H1 ⟨v, r1, st1, x1, m1, rv, h1⟩ =>
    ⟨r1, env, st1, he.mono x1 hm, m1, (AftS.exp (rel := rV X.K) (he.mono x1 hm) m1 h1).imp fun x' H2 ⟨x, r2, st2, x2, m2, rx, h2⟩ =>
    ⟨r2, env, st2, (he.mono x1 hm).mono x2 m1, m2, (AftS.exp (rel := rV X.K) ((he.mono x1 hm).mono x2 m1) m2 h2).imp fun y' H3 ⟨y, r3, st3, x3, m3, ry, h3⟩ => by
      cases x with
      | ref i =>
        cases k2 : keyOf y with
        | none => simp only [k2] at h3; exact h3.elim
        | some k =>
          simp only [k2] at h3
          cases k1 : st3[i]? with
          | none => simp only [k1] at h3; exact h3.elim
          | some o =>
            cases o with
            | dct kvs =>
              simp only [k1] at h3
              by_cases q : kvs.length < big
              · rw [if_pos q] at h3
                cases rx.mono x3 m2 with
                | @ref _ p hp =>
                obtain ⟨dk, e1, e2, hs⟩ := m3.at_ _ _ _ k1 hp
                have D0 : DcR X.K H3 r3 kvs dk := ⟨e2, hs⟩
                have rv3 := (rv.mono x2 m1).mono x3 m2
                have W2 := Xt.write (o := .dK (putK dk k v')) m3 hp
                have D1 := (putD_at (k := k) rv3 D0).mono W2 m3
                refine ⟨p, _, rfl, by rw [key_at k2 ry]; exact DPut.k e1 (by rw [D0.length, ← big_eq]; exact q), ?_⟩
                exact h3 r3 _ σ W2 (m3.write hp ⟨_, upd_same, D1.ks, D1.vs⟩) ((((he.mono x1 hm).mono x2 m1).mono x3 m2).mono W2 m3)
              · rw [if_neg q] at h3; exact h3.elim
            | _ => simp only [k1] at h3; exact h3.elim
      | _ => cases keyOf y <;> exact h3.elim⟩⟩⟩
end
end Sm

set_option Elab.async false
set_option linter.all false
set_option maxRecDepth 100000
set_option maxHeartbeats 4000000
namespace Sm
open L2 PySem PySem.Spec
/-! ### frozen dicts -/
section
variable {K : PySem.W.Frag} {H H' : Hp} {r r' : List Addr} {st : Hs} {D : Addr} {o : HO} {dk0 : List (L2.Key × V)}
/-- a dict that is not tracked is written: all else stands -/
theorem rv_dk (hD : H D = some (.dK dk0)) {x : IV} {v : V} (h : RV K H r x v) : RV K (upd H D o) r x v := by
  have off : ∀ {p u}, H p = some u → u ≠ .dK dk0 → (upd H D o) p = some u := fun {p u} e n => by
    rw [upd_ne (fun z => by rw [z, hD] at e; cases e; exact n rfl)]; exact e
  exact RV.rec (motive_1 := fun x v _ => RV K (upd H D o) r x v) (motive_2 := fun xs vs _ => RVs K (upd H D o) r xs vs) .non .bl .int .str
    (fun h _ ih => .tup (h.elim (fun h => .inl (h.elim (fun h => .inl (off h (fun z => nomatch z))) fun ⟨u, h⟩ => .inr ⟨u, off h (fun z => nomatch z)⟩)) .inr) ih)
    (fun h _ ih => .rl (h.elim (fun ⟨u, h⟩ => .inl ⟨u, off h (fun z => nomatch z)⟩) .inr) ih) (fun h => .ref h)
    (fun h n h2 n2 e e2 _ ih => .obj (off h (fun z => nomatch z)) n (off h2 (fun z => nomatch z)) n2 e e2 ih)
    (fun h e1 e2 _ ih => .fd (off h (fun z => nomatch z)) e1 e2 ih) (fun e h a b => .cls e h a b) .nil (fun _ _ a b => .cons a b) h
theorem rvs_dk (hD : H D = some (.dK dk0)) : ∀ {xs : List IV} {us : List V}, RVs K H r xs us → RVs K (upd H D o) r xs us
  | _, _, .nil => .nil
  | _, _, .cons a b => .cons (rv_dk hD a) (rvs_dk hD b)
theorem Mt.dk (m : Mt K H r st) (hD : H D = some (.dK dk0)) (nD : D ∉ r) : Mt K (upd H D o) r st :=
  ⟨m.len, m.nd, fun i u q h1 h2 => by
    have hq : q ≠ D := fun z => nD (z ▸ List.mem_of_getElem? h2)
    have w := m.at_ i u q h1 h2
    cases u with
    | lst ys =>
      obtain ⟨us, e1, rs⟩ := w
      exact ⟨us, (upd_ne hq).trans e1, rvs_dk hD rs⟩
    | dct kvs =>
      obtain ⟨d2, e1, e2, hs⟩ := w
      exact ⟨d2, (upd_ne hq).trans e1, e2, rvs_dk hD hs⟩
    | ins c ns ys =>
      obtain ⟨dx, fs, e1, e2, n2, e3, hs⟩ := w
      exact ⟨dx, fs, (upd_ne hq).trans e1, (upd_ne (fun z => by rw [z, hD] at e2; cases e2)).trans e2, n2, e3, rvs_dk hD hs⟩⟩
theorem Xt.put {H1 : Hp} {r1 : List Addr} (x : Xt r1 H1 r H) (n : H1 D = none) : Xt r1 H1 r (upd H D o) :=
  ⟨x.pre, fun p u h hn => by
    obtain ⟨a, b⟩ := x.fr p u h hn
    exact ⟨(upd_ne (ne_of_none h n)).trans a, b⟩⟩
end
section
variable {X : Cx} {W : WX} {pos pos' : Pos} {a b c e : Expr} {ma mb mc m : ME} {r r' : List Addr} {H H' : Hp} {σ : L2.St} {env : Env} {st : Hs}
/-- a new thing, known for good -/
theorem pe_lock {t : TE} (h : PE X e t) : PE X e (fun σ H Q => t σ H fun v H1 => ∃ d u, v = .ref d ∧ H1 d = some u ∧ Mut (some u) ∧ ∀ od, Q v (upd H1 d (.frz od u))) :=
  ⟨fun pins s σ H Q I q => wpAny_mono (h.run pins s σ H _ I q) (fun u s' ⟨v, H', I', rv, d, w, ev, ew, mu, k⟩ => by
    obtain ⟨od, I2⟩ := I'.lock ew mu
    exact ⟨v, _, I2, rv, k od⟩) fun _ _ x => x⟩
/-- {} that is never written -/
def mDctF : ME := fun _ st => .ok (.fd [] []) st
theorem pem_dctF : PEm X W (.Dict [] [] pos) mDctF :=
  PE.weak (pe_lock pe_dnewK) fun σ H Q ⟨r, env, st, he, hm, h⟩ => fun p hp => ⟨p, _, rfl, upd_same, trivial, fun od => by
    rw [upd_upd]
    exact h r _ _ (Xt.aside hp) (hm.aside hp) (.fd upd_same rfl rfl .nil)⟩
/-! a dict's comprehension, never written later -/
def goDc (s : Src) (g : MG) (c : MT) (mk mv : ME) (env : Env) : Nat → Nat → List (L2.Key × IV) → M (List (L2.Key × IV))
  | 0, _, acc, st => if s.fin st = true then .ok acc st else .no
  | k + 1, i, acc, st => match s.item i st with
    | none => .no
    | some x => match g x env st with
      | .ok env' st' => match c env' st' with
        | .ok true s2 => match mk env' s2 with
          | .ok y s3 => match keyOf y with
            | some q => match mv env' s3 with
              | .ok z s4 => if acc.length < big then goDc s g c mk mv env k (i + 1) (putD acc q z) s4 else .no
              | _ => .no
            | none => .no
          | _ => .no
        | .ok false s2 => goDc s g c mk mv env k (i + 1) acc s2
        | _ => .no
      | _ => .no
def mDcF (i : MI) (g : MG) (c : MT) (mk mv : ME) (vs : List Nat) : ME := fun env => bnd (i env) fun s => bnd (goDc s g c mk mv (wipeI env vs) s.n 0 []) fun kvs => ret (.fd (kvs.map fun q => q.1) (kvs.map fun q => q.2))
variable {mi : MI} {g : MG} {tc : MT} {mk mv : ME} {sl : List Nat}
theorem dc_m {vs : List Nat} {Q : VK} (hv : ∀ i ∈ sl, i ∈ vs) (h : tE X W (mDcF mi g tc mk mv vs) σ H Q) :
    tDc (tIm X W mi) (tGm X sl g) (tT X W0 tc) (tE X W0 mk) (tE X W0 mv) vs σ H (fun v H1 => ∃ d u, v = .ref d ∧ H1 d = some u ∧ Mut (some u) ∧ ∀ od, Q v (upd H1 d (.frz od u))) := by
  obtain ⟨r, env, st, he, hm, h⟩ := h
  refine ⟨r, env, st, he, hm, (Aft.split (rel := SrcR X) h).imp fun J H1 ⟨s, r1, st1, x1, m1, hJ, h1⟩ D hD => ?_⟩
  have e1 := he.mono x1 hm
  refine ⟨fun i k H => i + k = s.n ∧ ∃ r' st' acc accV, Xt r1 H1 r' H ∧ Mt X.K H r' st' ∧ H D = some (.dK accV) ∧ D ∉ r' ∧ DcR X.K H r' acc accV ∧ Aft X W σ (rV X.K) r1 H1 (bnd (goDc s g tc mk mv (wipeI env vs) k i acc) (fun kvs => Sm.ret (.fd (kvs.map fun q => q.1) (kvs.map fun q => q.2))) st') Q,
    ⟨s.n, Nat.zero_add _, r1, st1, [], [], Xt.aside hD, m1.aside hD, upd_same, m1.outD hD, dcR_nil, h1⟩, ?_⟩
  rintro i k H ⟨ek, r', st', acc, accV, x2, m2, d2, n2, rs2, h2⟩
  obtain ⟨j1, j2⟩ := hJ r' H st' x2 m2
  cases k with
  | zero =>
    have ei : i = s.n := ek
    subst ei
    unfold bnd goDc at h2
    by_cases q : s.fin st' = true
    · rw [if_pos q] at h2
      refine .inl ⟨j1 q, D, _, rfl, d2, trivial, fun od => h2 r' _ (.ref D) (x2.put hD) (m2.dk d2 n2) ?_⟩
      exact .fd upd_same rs2.ks rfl (rvs_dk d2 rs2.vs)
    · rw [if_neg q] at h2; exact h2.elim
  | succ k =>
    unfold bnd goDc at h2
    cases q : s.item i st' with
    | none => rw [q] at h2; exact h2.elim
    | some x =>
      rw [q] at h2
      dsimp only at h2
      obtain ⟨j3, j4⟩ := j2 i x q
      refine .inr ⟨j3, fun H' => ∃ r' st' acc accV, Xt r1 H1 r' H' ∧ Mt X.K H' r' st' ∧ H' D = some (.dK accV) ∧ D ∉ r' ∧ DcR X.K H' r' acc accV ∧ Aft X W σ (rV X.K) r1 H1 (bnd (goDc s g tc mk mv (wipeI env vs) k (i + 1) acc) (fun kvs => Sm.ret (.fd (kvs.map fun q => q.1) (kvs.map fun q => q.2))) st') Q,
        fun H' hN => ⟨k, Nat.lt_succ_self k, by omega, hN⟩, fun v H' y => ?_⟩
      obtain ⟨x3, m3, rv⟩ := j4 v H' y
      obtain ⟨d3, n3⟩ := x3.fr D _ d2 n2
      have rs3 := rs2.mono x3 m2
      refine ⟨r', wipeI env vs, st', x, ((e1.mono x2 m1).mono x3 m2).wipe vs, m3, rv, ?_⟩
      cases q2 : g x (wipeI env vs) st' with
      | no => rw [q2] at h2; exact h2.elim
      | ex a s2 => rw [q2] at h2; exact h2.elim
      | ok env3 st3 =>
        rw [q2] at h2
        dsimp only at h2
        refine Aft0.ok fun r4 H4 σ4 x4 m4 e4 => ⟨(e4.2 vs hv).trans (wipe_wipe (fun i h => h)), r4, env3, st3, e4.1, m4, ?_⟩
        obtain ⟨d4, n4⟩ := x4.fr D _ d3 n3
        have rs4 := rs3.mono x4 m3
        have x14 := (x2.trans x3).trans x4
        cases q3 : tc env3 st3 with
        | no => rw [q3] at h2; exact h2.elim
        | ex a s2 => rw [q3] at h2; exact h2.elim
        | ok t st4 =>
          rw [q3] at h2
          refine Rs.ok_of fun r5 H5 b x5 m5 eb => ?_
          have eb : t = b := eb
          subst eb
          obtain ⟨d5, n5⟩ := x5.fr D _ d4 n4
          have rs5 := rs4.mono x5 m4
          have x15 := x14.trans x5
          cases t with
          | false =>
            dsimp only at h2
            refine iteF ⟨r5, st4, acc, accV, x15, m5, d5, n5, rs5, h2⟩
          | true =>
            dsimp only at h2
            refine iteT ⟨r5, env3, st4, e4.1.mono x5 m4, m5, ?_⟩
            cases q4 : mk env3 st4 with
            | no => rw [q4] at h2; exact h2.elim
            | ex a s2 => rw [q4] at h2; exact h2.elim
            | ok y st5 =>
              rw [q4] at h2
              dsimp only at h2
              refine Rs.ok_of fun r6 H6 yv x6 m6 ry => ?_
              obtain ⟨d6, n6⟩ := x6.fr D _ d5 n5
              have rs6 := rs5.mono x6 m5
              cases qk : keyOf y with
              | none => rw [qk] at h2; exact h2.elim
              | some kk =>
                rw [qk] at h2
                dsimp only at h2
                refine ⟨r6, env3, st5, (e4.1.mono x5 m4).mono x6 m5, m6, ?_⟩
                cases q5 : mv env3 st5 with
                | no => rw [q5] at h2; exact h2.elim
                | ex a s2 => rw [q5] at h2; exact h2.elim
                | ok z st6 =>
                  rw [q5] at h2
                  dsimp only at h2
                  by_cases q6 : acc.length < big
                  · rw [if_pos q6] at h2
                    refine Rs.ok_of fun r7 H7 w x7 m7 rw7 => ?_
                    obtain ⟨d7, n7⟩ := x7.fr D _ d6 n6
                    have rs7 := rs6.mono x7 m6
                    have dd := putD_at (k := kk) rw7 rs7
                    exact ⟨accV, kk, key_at qk ry, d7, by rw [← big_eq, rs7.length]; exact q6, r7, st6, putD acc kk z, putK accV kk w, ((x15.trans x6).trans x7).put hD, m7.dk d7 n7, upd_same, n7, ⟨dd.ks, rvs_dk d7 dd.vs⟩, h2⟩
                  · rw [if_neg q6] at h2; exact h2.elim
section
variable {kx vx tg iter : Expr} {ifs : List Expr} {scope : Scope} {own : List (Str × Nat)}
theorem pem_dcF (hc : X.calm = true) (hN : X.N.Nodup) (ok : BlkOk X.N X.env.scope scope own) (hi : PIm X W tg iter mi)
    (hg : ∀ (s : Shared) (H : Hp) (C : Addr) (cl : List (Str × Addr)) (fp : List Addr), PGm (X.blk s H scope (compEnvC scope cl C X.env) fp) sl tg g) (ht : ∀ (s : Shared) (H : Hp) (C : Addr) (cl : List (Str × Addr)) (fp : List Addr), PTsm (X.blk s H scope (compEnvC scope cl C X.env) fp) W0 ifs tc)
    (hk : ∀ (s : Shared) (H : Hp) (C : Addr) (cl : List (Str × Addr)) (fp : List Addr), PEm (X.blk s H scope (compEnvC scope cl C X.env) fp) W0 kx mk)
    (he : ∀ (s : Shared) (H : Hp) (C : Addr) (cl : List (Str × Addr)) (fp : List Addr), PEm (X.blk s H scope (compEnvC scope cl C X.env) fp) W0 vx mv) (hv : ∀ i ∈ sl, i ∈ own.map (·.2) := by decide) (hs : ∀ x, foldedSetIterable iter X.env x = pure x := by intro _; rfl) :
    PEm X W (.DictComp kx vx [⟨tg, iter, ifs, 0⟩] scope pos) (mDcF mi g tc mk mv (own.map (·.2))) :=
  PE.weak (pe_lock (pe_dc (tt := tT X W0 tc) (tk := tE X W0 mk) (tv := tE X W0 mv) (g := tGm X sl g) hc hN hi ok hg ht hk he hs)) fun σ H Q h => dc_m hv h
end
/-! the values of a frozen dict, walked over -/
def iVl (m : ME) : MI := fun env => bnd (m env) fun x st => match x with
  | .fd ks xs => if ks.length = xs.length then .ok (.seq (.tup xs) xs.length) st else .no
  | _ => .no
theorem pim_vl {tg : Expr} {apos cpos : Pos} (h : PEm X W e m) (hbase : attributeBase e "values" X.env (eval e X.env) = eval e X.env := by rfl) (hline : (apos.endLine == cpos.line) = true := by rfl) : PIm X W tg (.Call (.Attribute e "values" apos) [] [] cpos) (iVl m) :=
  PI.weak (pi_values h hbase hline) fun σ H R ⟨r, env, st, he, hm, h⟩ => ⟨r, env, st, he, hm, (Aft.split (rel := rV X.K) h).imp fun v H1 ⟨x, r1, st1, x1, m1, rv, h1⟩ => by
    cases rv with
    | @fd p od dk ks vs xs e0 e1 e2 hs =>
      dsimp only at h1
      by_cases q : ks.length = xs.length
      · rw [if_pos q] at h1
        refine ⟨p, od, dk, rfl, e0, h1 r1 H1 _ Xt.refl m1 fun r' H' st' x2 m2 => ?_⟩
        have o1 : p ∉ r1 := m1.out e0 fun z => z
        have e3 := (x2.fr _ _ e0 o1).1
        have hs2 := hs.mono x2 m1
        subst e2
        have hl : dk.length = xs.length := by have := hs.length; simpa using this.symm
        refine ⟨fun _ => ⟨e3, by rw [hl]; exact Nat.le_refl _⟩, fun i x hx => ?_⟩
        have hx : (if xs.length = xs.length then xs[i]? else none) = some x := hx
        rw [if_pos rfl] at hx
        have hi := (List.getElem?_eq_some_iff.mp hx).1
        refine ⟨⟨e3, by omega⟩, fun v H'' ⟨eh, k, hk⟩ => ?_⟩
        subst eh
        refine ⟨Xt.refl, m2, ?_⟩
        obtain ⟨w, hw, rw1⟩ := hs2.get hx
        rw [List.getElem?_map, hk] at hw
        cases hw
        exact rw1
      · rw [if_neg q] at h1; exact h1.elim
    | _ => exact h1.elim⟩
end
end Sm

set_option Elab.async false
set_option linter.all false
set_option maxRecDepth 100000
set_option maxHeartbeats 4000000
namespace Sm
open L2 PySem PySem.Spec
/-! ### dicts made, listed, merged -/
def mergeD (acc more : List (L2.Key × IV)) : List (L2.Key × IV) := more.foldl (fun acc q => putD acc q.1 q.2) acc
section
variable {K : PySem.W.Frag} {H H' : Hp} {r r' : List Addr} {st : Hs}
theorem merge_at : ∀ {more acc : List (L2.Key × IV)} {dm da : List (L2.Key × V)}, DcR K H r acc da → DcR K H r more dm → DcR K H r (mergeD acc more) (mergeK da dm)
  | [], acc, dm, da, h, g => by
    have e := g.ks
    cases dm with
    | nil => exact h
    | cons q r => cases e
  | (j, x) :: more, acc, dm, da, h, g => by
    obtain ⟨v, dk', rfl, a, b⟩ := g.inv
    exact merge_at (more := more) (acc := putD acc j x) (dm := dk') (da := putK da j v) (putD_at a h) b
/-- the pairs of a list of pairs -/
def prsOf : List IV → Option (List (L2.Key × IV))
  | [] => some []
  | .tup [y, z] :: r => match keyOf y, prsOf r with
    | some k, some kvs => some ((k, z) :: kvs)
    | _, _ => none
  | _ => none
theorem prs_at : ∀ {xs : List IV} {kvs : List (L2.Key × IV)} {vs : List V}, prsOf xs = some kvs → RVs K H r xs vs → ∃ (ps : List Addr) (dk : List (L2.Key × V)), vs = ps.map V.ref ∧ DcR K H r kvs dk ∧ Paired (fun p kv => SqT K H p [kV kv.1, kv.2]) ps dk
  | [], kvs, _, h, .nil => by cases h; exact ⟨[], [], rfl, dcR_nil, .nil⟩
  | .tup [y, z] :: r, kvs, _, h, .cons a t => by
    unfold prsOf at h
    split at h
    · rename_i k kvs' e1 e2
      cases h
      obtain ⟨ps, dk, rfl, d, q⟩ := prs_at e2 t
      cases a with
      | @tup p vs _ hp hs =>
        cases hs with
        | cons a1 t1 =>
          cases t1 with
          | cons a2 t2 =>
            cases t2
            have := key_at e1 a1
            subst this
            exact ⟨p :: ps, (k, _) :: dk, rfl, .cons a2 d, .cons hp q⟩
    · cases h
  | .non :: _, _, _, h, _ => by cases h
  | .bl _ :: _, _, _, h, _ => by cases h
  | .int _ :: _, _, _, h, _ => by cases h
  | .str _ :: _, _, _, h, _ => by cases h
  | .rl _ :: _, _, _, h, _ => by cases h
  | .ref _ :: _, _, _, h, _ => by cases h
  | .obj _ _ _ :: _, _, _, h, _ => by cases h
  | .fd _ _ :: _, _, _, h, _ => by cases h
  | .cls _ :: _, _, _, h, _ => by cases h
  | .tup [] :: _, _, _, h, _ => by cases h
  | .tup [_] :: _, _, _, h, _ => by cases h
  | .tup (_ :: _ :: _ :: _) :: _, _, _, h, _ => by cases h
end
/-- dict(pairs) -/
def bDct : On := fun xs st => match xs with
  | [x] => (lstOf st x).bind fun ys => (prsOf ys).bind fun kvs => some (.ref st.length, st ++ [.dct (mergeD [] kvs)])
  | _ => none
/-- list(d): the keys -/
def bLsD : On := fun xs st => match xs with
  | [x] => (dctI st x).bind fun kvs => newL st (kvs.map fun q => keyI q.1)
  | _ => none
def bLenD : On := fun xs st => match xs with
  | [x] => (dctI st x).map fun kvs => (.int kvs.length, st)
  | _ => none
def bSum : On := fun xs st => match xs with
  | [x] => (lstOf st x).bind fun ys => (intsOf ys).map fun ns => (.int ns.sum, st)
  | _ => none
section
variable {X : Cx} {W : WX} {pos pos' : Pos} {a b c e : Expr} {ma mb mc m : ME} {r r' : List Addr} {H H' : Hp} {σ : L2.St} {env : Env} {st : Hs}
theorem cb_dct (hc : X.calm = true) : CallR X (.type "dict") (rMs X.K bDct) := CallR.weak (call_dictP hc) fun vs H Q h0 => by
  obtain ⟨r, xs, st, z, st', e, rs, m, h⟩ := rMs_inv h0
  unfold bDct at e
  split at e
  · rename_i x
    obtain ⟨v, rfl, rv⟩ := rvs_one rs
    cases k : lstOf st x with
    | none => rw [k] at e; cases e
    | some ys =>
      rw [k] at e
      cases k2 : prsOf ys with
      | none => simp only [Option.bind_some, k2] at e; cases e
      | some kvs =>
        simp only [Option.bind_some, k2] at e
        cases e
        obtain ⟨p, vs, rfl, hq, rs1⟩ := lst_at m k rv
        obtain ⟨ps, dk, rfl, D, pr⟩ := prs_at k2 rs1
        refine ⟨p, ps, dk, rfl, hq, pr, fun q hp => ?_⟩
        have D2 := (merge_at (dcR_nil (K := X.K) (H := H) (r := r)) D).mono (Xt.new (o := .dK (mergeK [] dk)) hp) m
        exact h (r ++ [q]) _ _ (Xt.new hp) (m.new hp ⟨_, upd_same, D2.ks, D2.vs⟩) (RV.last m)
  · cases e
theorem rvs_keys {K : PySem.W.Frag} {H : Hp} {r : List Addr} : ∀ ks : List L2.Key, RVs K H r (ks.map keyI) (ks.map kV)
  | [] => .nil
  | k :: ks => .cons (keyI_at k) (rvs_keys ks)
theorem cb_lsD (hc : X.calm = true) : CallR X (.type "list") (rMs X.K bLsD) := CallR.weak (call_listD hc) fun vs H Q h0 => by
  obtain ⟨r, xs, st, z, st', e, rs, m, h⟩ := rMs_inv h0
  unfold bLsD at e
  split at e
  · rename_i x
    obtain ⟨v, rfl, rv⟩ := rvs_one rs
    cases k : dctI st x with
    | none => rw [k] at e; cases e
    | some kvs =>
      rw [k] at e
      cases e
      obtain ⟨p, dk, rfl, e1, D⟩ := dct_at m k rv
      refine ⟨p, dk, rfl, e1, fun q hq => ?_⟩
      have ek : (dk.map fun kv => kV kv.1) = (kvs.map fun q => q.1).map kV := by rw [← D.ks, List.map_map]; rfl
      have ei : (kvs.map fun q => keyI q.1) = (kvs.map fun q => q.1).map keyI := by rw [List.map_map]; rfl
      rw [ek]
      refine h (r ++ [q]) _ _ (Xt.new hq) (m.new hq ⟨_, upd_same, ?_⟩) (RV.last m)
      rw [ei]
      exact rvs_keys _
  · cases e
theorem cb_lenD : CallR X (.builtin "len") (rMs X.K bLenD) := by
  intro pins s σ H vs us Q I rv h0
  obtain ⟨r, xs, st, z, st', e, rs, m, h⟩ := rMs_inv h0
  unfold bLenD at e
  split at e
  · rename_i x
    obtain ⟨v, rfl, rx⟩ := rvs_one rs
    cases k : dctI st x with
    | none => rw [k] at e; cases e
    | some kvs =>
      rw [k] at e
      cases e
      obtain ⟨p, dk, rfl, e1, D⟩ := dct_at m k rx
      obtain ⟨u, rfl, ru⟩ := vals1 rv
      obtain rfl : u = Value.ref p := ru
      refine d_len I e1 fun t s' I' => ⟨.int kvs.length, H, I', ⟨t, by rw [D.length]⟩, h r H _ Xt.refl m (.int _)⟩
  · cases e
theorem cb_sum (hc : X.calm = true) : CallR X (.builtin "sum") (rMs X.K bSum) := CallR.weak (cr_sum hc) fun vs H Q h0 => by
  obtain ⟨r, xs, st, z, st', e, rs, m, h⟩ := rMs_inv h0
  unfold bSum at e
  split at e
  · rename_i x
    obtain ⟨v, rfl, rv⟩ := rvs_one rs
    cases k : lstOf st x with
    | none => rw [k] at e; cases e
    | some ys =>
      rw [k] at e
      cases k2 : intsOf ys with
      | none => simp only [Option.bind_some, k2] at e; cases e
      | some ns =>
        simp only [Option.bind_some, k2] at e
        cases e
        obtain ⟨p, vs, rfl, hq, rs1⟩ := lst_at m k rv
        have := ints_at k2 rs1
        subst this
        exact ⟨p, ns, rfl, hq, h r H _ Xt.refl m (.int _)⟩
  · cases e
/-! {k: v, ..}, keys ints or texts -/
def goDs : List (ME × ME) → Env → M (List (L2.Key × IV))
  | [], _ => ret []
  | (mk, mv) :: es, env => bnd (mk env) fun y => bnd (mv env) fun z => bnd (goDs es env) fun kvs => match keyOf y with
    | some k => ret ((k, z) :: kvs)
    | none => stuck
def mDsp (es : List (ME × ME)) : ME := fun env st => match goDs es env (st ++ [.dct []]) with
  | .ok kvs st' => (match st'[st.length]? with
    | some (.dct []) => if kvs.length ≤ 15 then .ok (.ref st.length) (st'.set st.length (.dct (mergeD [] kvs))) else .no
    | _ => .no)
  | .ex e st' => .ex e st'
  | .no => .no
def relD (K : PySem.W.Frag) : Hp → List Addr → List (L2.Key × IV) → List (V × V) → Prop := fun H r kvs ps => ∃ dk, DcR K H r kvs dk ∧ ps = dk.map fun q => (kV q.1, q.2)
abbrev trsD (X : Cx) (W : WX) (es : List (ME × ME)) : List (TE × TE) := es.map fun q => (tE X W q.1, tE X W q.2)
theorem prs_of : ∀ {es : List (ME × ME)} {r : List Addr} {env : Env} {st : Hs} {H : Hp} {Q : List (V × V) → Hp → Prop}, REnv X.K H r env σ → Mt X.K H r st → Aft X W σ (relD X.K) r H (goDs es env st) Q → tPairs (trsD X W es) σ H Q
  | [], r, env, st, H, Q, he, hm, h => h r H [] Xt.refl hm ⟨[], dcR_nil, rfl⟩
  | (mk, mv) :: es, r, env, st, H, Q, he, hm, h => ⟨r, env, st, he, hm, (Aft.split (rel := rV X.K) h).imp fun y' H1 ⟨y, r1, st1, x1, m1, ry, h1⟩ =>
    ⟨r1, env, st1, he.mono x1 hm, m1, (Aft.split (rel := rV X.K) h1).imp fun z' H2 ⟨z, r2, st2, x2, m2, rz, h2⟩ =>
      prs_of ((he.mono x1 hm).mono x2 m1) m2 ((Aft.split (rel := relD X.K) h2).imp fun ps H3 ⟨kvs, r3, st3, x3, m3, ⟨dk, D, ep⟩, h3⟩ => by
        cases k : keyOf y with
        | none => rw [k] at h3; exact h3.elim
        | some kk =>
          rw [k] at h3
          refine h3 r3 H3 _ Xt.refl m3 ⟨(kk, z') :: dk, .cons (rz.mono x3 m2) D, ?_⟩
          rw [ep, key_at k ry]
          rfl)⟩⟩
inductive PDm (X : Cx) (W : WX) : List (Option Expr) → List Expr → List (ME × ME) → Prop where
  | nil : PDm X W [] [] []
  | cons {k v : Expr} {ks : List (Option Expr)} {vs : List Expr} {mk mv : ME} {es : List (ME × ME)} : PEm X W k mk → PEm X W v mv → PDm X W ks vs es → PDm X W (some k :: ks) (v :: vs) ((mk, mv) :: es)
theorem pds_of : ∀ {ks : List (Option Expr)} {vs : List Expr} {es : List (ME × ME)}, PDm X W ks vs es → PPs X pos ks vs (trsD X W es)
  | _, _, _, .nil => pps_nil
  | _, _, _, .cons h1 h2 t => pps_cons h1 h2 (pds_of t)
theorem pem_dsp {ks : List (Option Expr)} {vs : List Expr} {es : List (ME × ME)} (h : PDm X W ks vs es) (hall : ks.all (·.isSome) = true := by rfl) (hl : ks.length = vs.length := by rfl) (h0 : ks ≠ [] := by intro z; cases z) (h15 : ks.length ≤ 15 := by decide) : PEm X W (.Dict ks vs pos) (mDsp es) :=
  PE.weak (pe_disp (pds_of h) hall hl h0 h15) fun σ H Q ⟨r, env, st, he, hm, h⟩ => fun p hp => by
    have m1 : Mt X.K (upd H p (.dK [])) (r ++ [p]) (st ++ [.dct []]) := hm.new hp ⟨[], upd_same, rfl, .nil⟩
    have x1 := Xt.new (r := r) (o := .dK []) hp
    refine prs_of (he.mono x1 hm) m1 ?_
    unfold mDsp at h
    cases q : goDs es env (st ++ [.dct []]) with
    | no => rw [q] at h; exact h.elim
    | ex a s2 =>
      rw [q] at h
      exact fun r' H' cls d x2 m2 ee => h r' H' cls d (x1.trans x2) m2 ee
    | ok kvs st' =>
      rw [q] at h
      dsimp only at h
      refine fun r' H' ps x2 m2 ⟨dk, D, ep⟩ => ?_
      split at h
      · rename_i k
        by_cases q15 : kvs.length ≤ 15
        · rw [if_pos q15] at h
          have hp2 : r'[st.length]? = some p := x2.get (by rw [← hm.len]; simp)
          obtain ⟨d0, e1, e2, _⟩ := m2.at_ _ _ _ k hp2
          have e2 : d0 = [] := by
            cases d0 with
            | nil => rfl
            | cons q r => cases e2
          subst e2
          have W2 := Xt.write (o := .dK (mergeK [] dk)) m2 hp2
          have D2 := (merge_at (dcR_nil (K := X.K) (H := H') (r := r')) D).mono W2 m2
          exact ⟨e1, dk, ep, by rw [D.length]; exact q15, h r' _ _ ((x1.trans x2).trans W2) (m2.write hp2 ⟨_, upd_same, D2.ks, D2.vs⟩) (.ref hp2)⟩
        · rw [if_neg q15] at h; exact h.elim
      · exact h.elim
end
end Sm

set_option Elab.async false
set_option linter.all false
set_option maxRecDepth 100000
set_option maxHeartbeats 4000000
namespace Sm
open L2 PySem PySem.Spec PyProof.Rows HT
/-! ### list(d.items()), d.update(d2) -/
/-- list(d.items()), d a dict that may be written -/
def mLsI (m : ME) : ME := fun env => bnd (m env) fun x st => match x with
  | .ref a => (match st[a]? with
    | some (.dct kvs) => .ok (.ref st.length) (st ++ [.lst (kvs.map fun q => .tup [keyI q.1, q.2])])
    | _ => .no)
  | _ => .no
section
variable {X : Cx} {W : WX} {pos pos' : Pos} {a b c e : Expr} {ma mb mc m : ME} {r r' : List Addr} {H H' : Hp} {σ : L2.St} {env : Sm.Env} {st : Hs}
theorem itm_at {K : PySem.W.Frag} {H H' : Hp} {r r' : List Addr} {st : Hs} (x : Xt r H r' H') (m : Mt K H r st) : ∀ {kvs : List (L2.Key × IV)} {dk : List (L2.Key × V)} {ts : List Addr}, DcR K H r kvs dk → Paired (fun (t : Addr) (q : L2.Key × V) => H' t = some (.tup [kV q.1, q.2])) ts dk → RVs K H' r' (kvs.map fun q => .tup [keyI q.1, q.2]) (ts.map V.ref)
  | [], dk, ts, D, p => by
    have e := D.ks
    cases dk with
    | nil => cases p; exact .nil
    | cons q r => cases e
  | (j, y) :: kvs, dk, ts, D, p => by
    obtain ⟨v, dk', rfl, a, b⟩ := D.inv
    cases p with
    | cons h t => exact .cons (.tup (.inl (.inl h)) (.cons (keyI_at j) (.cons (a.mono x m) .nil))) (itm_at x m b t)
theorem pem_lsI {p apos cpos : Pos} (hc : X.calm = true) (he : PEm X W e m) (hg : Gl X "list") (hm : X.mg "list" = none) (hv : bootBuiltins "list" = some (.type "list")) (hbase : attributeBase e "items" X.env (eval e X.env) = eval e X.env := by rfl) (hline : (apos.endLine == cpos.line) = true := by rfl)
    (hs : starEach [.Call (.Attribute e "items" apos) [] [] cpos] X.env = (false, eval (.Call (.Attribute e "items" apos) [] [] cpos) X.env) :: starEach [] X.env := by rfl) : PEm X W (.Call (.Name "list" p) [.Call (.Attribute e "items" apos) [] [] cpos] [] pos) (mLsI m) :=
  PE.weak (LiI.pe_listItems hc he hg hm hv hbase hline hs) fun σ H Q ⟨r, env, st, he, hm, h⟩ => ⟨r, env, st, he, hm, (Aft.split (rel := rV X.K) h).imp fun v H1 ⟨x, r1, st1, x1, m1, rv, h1⟩ => by
    cases rv with
    | @ref i p hp =>
      dsimp only at h1
      split at h1
      · rename_i kvs k
        obtain ⟨dk, e1, e2, hs⟩ := m1.at_ _ _ _ k hp
        refine ⟨p, dk, rfl, e1, fun H' q ts hk hq ht nq hl pr => ?_⟩
        have x2 : Xt r1 H1 (r1 ++ [q]) H' := ⟨⟨[q], rfl⟩, fun z o e n => ⟨hk z o e, fun w => by
          rw [List.mem_append, List.mem_singleton] at w
          exact w.elim n (ne_of_none e hq)⟩⟩
        have nr : q ∉ r1 := m1.outD hq
        have m2 : Mt X.K H' (r1 ++ [q]) (st1 ++ [.lst (kvs.map fun q => .tup [keyI q.1, q.2])]) := by
          refine ⟨by simp [m1.len], List.nodup_append.mpr ⟨m1.nd, by simp, fun y hy z hz => ?_⟩, fun i o z h1 h2 => ?_⟩
          · rw [List.mem_singleton] at hz
            subst hz
            exact fun w => nr (w ▸ hy)
          · by_cases hi : i < st1.length
            · rw [List.getElem?_append_left hi] at h1
              rw [List.getElem?_append_left (by rw [m1.len]; exact hi)] at h2
              have w := m1.at_ i o z h1 h2
              refine w.mono x2 m1 ?_
              cases o with
              | lst ys => obtain ⟨us, e, _⟩ := w; rw [e]; exact hk _ _ e
              | dct ks => obtain ⟨us, e, _⟩ := w; rw [e]; exact hk _ _ e
              | ins c ns ys => obtain ⟨d', fs, e, _⟩ := w; rw [e]; exact hk _ _ e
            · have e : i = st1.length := by
                have := (List.getElem?_eq_some_iff.mp h1).1
                simp at this
                omega
              subst e
              simp at h1
              rw [← m1.len] at h2
              simp at h2
              subst h1 h2
              exact ⟨_, hl, itm_at x2 m1 (⟨e2, hs⟩ : DcR X.K H1 r1 kvs dk) pr⟩
        exact h1 (r1 ++ [q]) H' (.ref q) x2 m2 (RV.last m1)
      · exact h1.elim
    | _ => exact h1.elim⟩
/-- d.update(d2), two dicts -/
def updK (a : Nat) (y : IV) : M IV := fun st => match y with
  | .ref b => (match st[a]?, st[b]? with
    | some (.dct ks), some (.dct js) => if a ≠ b ∧ ks.length + js.length ≤ big then .ok .non (st.set a (.dct (mergeD ks js))) else .no
    | _, _ => .no)
  | _ => .no
def mUpd (mo mx : ME) : ME := fun env => bnd (mo env) fun x st => match x with
  | .ref a => (match st[a]? with
    | some (.dct _) => bnd (mx env) (updK a) st
    | _ => .no)
  | _ => .no
def tUpd (td ty : TE) : TE := fun σ H Q => td σ H fun x H1 => ∃ a d0, x = .ref a ∧ H1 a = some (.dK d0) ∧ ty σ H1 fun y H2 => ∃ b ks js, y = .ref b ∧ a ≠ b ∧ H2 a = some (.dK ks) ∧ H2 b = some (.dK js) ∧ ks.length + js.length ≤ sizeLine ∧ Q .non (upd H2 a (.dK (mergeK ks js)))
theorem pe_upd {o e : Expr} {apos cpos : Pos} {td ty : TE} (ho : PE X o td) (he : PE X e ty) (m : M1 X o "update" apos e cpos) : PE X (.Call (.Attribute o "update" apos) [e] [] cpos) (tUpd td ty) := by
  refine ⟨fun pins s σ H Q I h => ?_⟩
  refine wpAny_Call_method m.base m.few m.line PySem.F.plainAttrs_dict PySem.F.slot_dict_update PySem.F.type_dict_update (thn (ho.run pins s σ H _ I h) fun u s1 ⟨x, H1, I1, rx, a, d0, ex, hd0, q1⟩ => ?_)
  subst ex
  obtain rfl : u = Value.ref a := rx
  obtain ⟨t1, t2, _⟩ := isD_at I1 (.inl ⟨d0, .inl hd0⟩)
  refine ⟨t1, t2, ?_⟩
  rw [m.trees]
  refine Calls.callWith_builtin rfl (Calls.evalArgs_plain (Calls.spliced_cons (thn (he.run pins s1 σ H1 _ I1 q1) fun iv s2 ⟨y, H2, I2, ry, b, ks, js, ey, ne, ha, hb, hz, q2⟩ => Calls.spliced_nil ?_)))
  subst ey
  obtain rfl : iv = Value.ref b := ry
  obtain ⟨z1, lo1, vs, rel1, dd1⟩ := dk_of I2.hok ha
  obtain ⟨z2, lo2, ws, rel2, dd2⟩ := dk_of I2.hok hb
  have hlen : (mergeK ks js).length ≤ sizeLine := Nat.le_trans (length_mergeK js ks) hz
  refine PySem.call_meetsIn PySem.F.slot_dict_update dd1.typeIs PySem.F.entry_dict_update (PySem.F.args_dict_update_2 _ _) (PySem.meets_dict_update (mixKind X.prog X.w) a b ne lo2)
    ⟨vs, ws, dd1, dd2, by rw [← rel1.length, ← rel2.length]; exact hz, fun h' dm _ hs => ⟨.non, upd H2 a (.dK (mergeK ks js)), ?_, rfl, q2⟩⟩
  exact d_write I2 (by rw [ha]; exact True.intro) hs (let ⟨q, _, _, hq, _⟩ := dm; ⟨q, hq⟩) (dk_new hlen lo1 (KV.merge rel2 rel1) dm)
theorem pem_upd {o e : Expr} {apos cpos : Pos} {mo mx : ME} (ho : PEm X W o mo) (he : PEm X W e mx)
    (base : attributeBase o "update" X.env (eval o X.env) = eval o X.env := by rfl)
    (few : ((backTo cpos (starEach [e] X.env)).all (fun x => !x.1) && (backToKw cpos (keywordEach [] X.env)).all (fun x => x.1.isSome) && decide (([e] : List Expr).length + ([] : List Keyword).length + (if ([] : List Keyword).isEmpty then 0 else 1) < 30)) = true := by rfl)
    (line : (apos.endLine == cpos.line) = true := by rfl) (trees : backTo cpos (starEach [e] X.env) = [(false, eval e X.env)] := by rfl) : PEm X W (.Call (.Attribute o "update" apos) [e] [] cpos) (mUpd mo mx) :=
  PE.weak (pe_upd ho he ⟨base, few, line, trees⟩) fun σ H Q ⟨r, env, st, he, hm, h⟩ => ⟨r, env, st, he, hm, (Aft.split (rel := rV X.K) h).imp fun v H1 ⟨x, r1, st1, x1, m1, rv, h1⟩ => by
    cases rv with
    | @ref i p hp =>
      dsimp only at h1
      cases k : st1[i]? with
      | none => simp only [k] at h1; exact h1.elim
      | some o =>
        cases o with
        | dct k0 =>
          simp only [k] at h1
          obtain ⟨d0, e0, _⟩ := m1.at_ _ _ _ k hp
          refine ⟨p, d0, rfl, e0, r1, env, st1, he.mono x1 hm, m1, (Aft.split (rel := rV X.K) h1).imp fun w H2 ⟨y, r2, st2, x2, m2, ry, h2⟩ => ?_⟩
          cases ry with
          | @ref j q hq =>
            unfold updK at h2
            dsimp only at h2
            cases k1 : st2[i]? with
            | none => simp only [k1] at h2; exact h2.elim
            | some o1 =>
              cases o1 with
              | dct ks =>
                cases k2 : st2[j]? with
                | none => simp only [k1, k2] at h2; exact h2.elim
                | some o2 =>
                  cases o2 with
                  | dct js =>
                    simp only [k1, k2] at h2
                    by_cases g : i ≠ j ∧ ks.length + js.length ≤ big
                    · rw [if_pos g] at h2
                      have hp2 := x2.get hp
                      obtain ⟨dk, e1, f1, g1⟩ := m2.at_ _ _ _ k1 hp2
                      obtain ⟨dj, e2, f2, g2⟩ := m2.at_ _ _ _ k2 hq
                      have D1 : DcR X.K H2 r2 ks dk := ⟨f1, g1⟩
                      have D2 : DcR X.K H2 r2 js dj := ⟨f2, g2⟩
                      have W2 := Xt.write (o := .dK (mergeK dk dj)) m2 hp2
                      have D3 := (merge_at D1 D2).mono W2 m2
                      refine ⟨q, dk, dj, rfl, fun z => g.1 (nodup_ad m2.nd hp2 (z ▸ hq)), e1, e2, by rw [D1.length, D2.length, ← big_eq]; exact g.2, ?_⟩
                      exact h2 r2 _ .non W2 (m2.write hp2 ⟨_, upd_same, D3.ks, D3.vs⟩) .non
                    · rw [if_neg g] at h2; exact h2.elim
                  | _ => simp only [k1, k2] at h2; exact h2.elim
              | _ => simp only [k1] at h2; exact h2.elim
          | _ => exact h2.elim
        | _ => simp only [k] at h1; exact h1.elim
    | _ => exact h1.elim⟩
end
end Sm

set_option Elab.async false
set_option linter.all false
set_option maxRecDepth 100000
set_option maxHeartbeats 4000000
namespace Sm
open L2 PySem PySem.Spec PyProof.Rows HT
/-! ### l[::-1], l a list -/
def mRevL (m : ME) : ME := fun env => bnd (m env) fun x st => match lstOf st x with
  | some xs => lf (newL st xs.reverse)
  | none => .no
section
variable {X : Cx} {W : WX} {pos : Pos}
theorem pe_revL {e : Expr} {te : TE} {k : Nat} {p1 p2 p3 pos : Pos} (he : PE X e te) : PE X (.Subscript e (.Slice none none (some (.UnaryOp .USub (.Constant (.int 1) k p1) p2)) p3) pos)
    (fun σ H Q => te σ H fun x H1 => ∃ a xs, x = .ref a ∧ SqL X.K H1 a xs ∧ ∀ p, H1 p = none → Q (.ref p) (upd H1 p (.lst xs.reverse))) := by
  refine ⟨fun pins s σ H Q I h => ?_⟩
  refine PyProof.Rows.Subscript_ (thn (he.run pins s σ H _ I h) fun v s1 ⟨x, H1, I1, r1, a, xs, ex, hx, q⟩ => ?_)
  subst ex
  cases r1
  have hst : PO X (some (.UnaryOp .USub (.Constant (.int 1) k p1) p2)) (tPart (tUn (rU fun i => .int (-i)) (tC (.int 1)))) := po_some (pe_un un_neg pe_int)
  refine wpAny_Slice (thn (po_none.run pins s1 σ H1 (fun o H2 => o = none ∧ H2 = H1) I1 ⟨rfl, rfl⟩) fun vl s2 ⟨l, H2, I2, pl, el, e2⟩ => ?_)
  subst el e2
  refine thn (po_none.run pins s2 σ H2 (fun o H3 => o = none ∧ H3 = H2) I2 ⟨rfl, rfl⟩) fun vu s3 ⟨u, H3, I3, pu, eu, e3⟩ => ?_
  subst eu e3
  refine thn (hst.run pins s3 σ H3 (fun o H4 => o = some (-1) ∧ H4 = H3) I3 ⟨1, rfl, -1, rfl, rfl, rfl⟩) fun vs s4 ⟨o, H4, I4, ps, eo, e4⟩ => ?_
  subst eo e4
  have I5 : Inv X pins σ H4 { s4 with heap := s4.heap.push { cls := .type "slice", data := .fields #[vl, vu, vs] } } := I4.kept (t' := s4.toks) fun b ob q => Heap.get?_push_of_some _ q
  obtain ⟨its, r, ht, hz⟩ := I5.list hx
  have hlen := r.length
  show wpAny (model X.prog X.w) X.A (subscriptTail e (.Slice none none (some (.UnaryOp .USub (.Constant (.int 1) k p1) p2)) p3) (.ref a) (.ref s4.heap.objs.size)) (EP X pins σ Q) X.xe { s4 with heap := s4.heap.push { cls := .type "slice", data := .fields #[vl, vu, vs] } }
  refine tail_any (ops := [.ref a, .ref s4.heap.objs.size]) ht.isList.typeIs (slot_list_getitem.lookup) ?_ (by with_unfolding_all rfl)
  refine wpAny_getItem_list_slice ht.isList (Heap.IsSliceOf.new _ vl vu vs) pl pu ps (by simp) ?_ (by rw [List.size_toArray]; omega)
  rw [PySem.W.krv_pick]
  refine ⟨.ref _, _, I5.laid (t' := s4.toks) (o := .lst xs.reverse) (fun b ob q => Heap.get?_push_of_some _ q) (Nat.le_refl _) ?_, rfl, q _ (I5.hok.fresh (Nat.le_refl _))⟩
  exact ⟨by rw [List.length_reverse]; exact hz, _, 0, r.reverse, Heap.get?_push_size _ rfl⟩
theorem pem_revL {e : Expr} {m : ME} {k : Nat} {p1 p2 p3 : Pos} (he : PEm X W e m) : PEm X W (.Subscript e (.Slice none none (some (.UnaryOp .USub (.Constant (.int 1) k p1) p2)) p3) pos) (mRevL m) :=
  PE.weak (pe_revL he) fun σ H Q ⟨r, env, st, he, hm, h⟩ => ⟨r, env, st, he, hm, (Aft.split (rel := rV X.K) h).imp fun v H1 ⟨x, r1, st1, x1, m1, rv, h1⟩ => by
    cases q : lstOf st1 x with
    | none => rw [q] at h1; exact h1.elim
    | some xs =>
      rw [q] at h1
      obtain ⟨p, vs, rfl, hq, rs⟩ := lst_at m1 q rv
      exact ⟨p, vs, rfl, hq, fun p hp => h1 (r1 ++ [p]) _ _ (Xt.new hp) (m1.new hp ⟨_, upd_same, rvs_rev (rs.mono (Xt.new hp) m1)⟩) (RV.last m1)⟩⟩
end
end Sm

set_option Elab.async false
set_option linter.all false
set_option maxRecDepth 100000
set_option maxHeartbeats 4000000
/-! ### == and != of sequences whose items are compared by calls -/
namespace SmQ
open PySem PySem.SeqAt
open AutoSeq1 (wpAny_loadPart')
open MeetsSeq MeetsSeq2 MeetsSeq3 SeqRoads2
section
variable {prog : Program} {w : World} {A : Around} {R : Result → Shared → Prop}
/-- at each turn the two lists are read anew: N items each; the i-th two are equal, or it ends there -/
def ListJ (prog : Program) (w : World) (A : Around) (E : Value → Shared → Prop) (l b : Addr) (N : Nat) (I F : Nat → Shared → Prop) : Prop :=
  (∀ i s, I i s → ∃ (p q : Array Value) (n m : Nat), s.heap.get? l = some { cls := .type "list", data := .seq p n } ∧ s.heap.get? b = some { cls := .type "list", data := .seq q m } ∧ p.size = N ∧ q.size = N ∧
    ∀ (h1 : i < p.size) (h2 : i < q.size), wpAny (model prog w) A.in1 (eqBool p[i] q[i]) (fun r s' => (r = true ∧ I (i + 1) s') ∨ (r = false ∧ F i s')) E s) ∧
  ∀ i s, i < N → F i s → ∃ (p q : Array Value) (n m : Nat), s.heap.get? l = some { cls := .type "list", data := .seq p n } ∧ s.heap.get? b = some { cls := .type "list", data := .seq q m } ∧ p.size = N ∧ q.size = N

theorem loopEq (l b : Addr) (N : Nat) (I F : Nat → Shared → Prop) (hl : ListJ prog w A (fun e s' => R (.error e) s') l b N I F)
    (fin : ∀ s, I N s → R (.ok (.ret (.bool true))) s) (stop : ∀ i s, F i s → R (.ok (.ret (.bool false))) s) : ∀ k i : Nat, N - i = k → i ≤ N → ∀ s, I i s →
      wpAny (model prog w) A.in1 (Builtin.«list.__eq__.loop» ⟨[.ref l, .ref b, rawInt i, rawInt 2], []⟩) (GQ.FinOf prog w A R) (fun e s' => R (.error e) s') s := by
  intro k
  induction k with
  | zero =>
    intro i hk hi s h
    obtain ⟨p, q, n, m, hp, hq, sp, sq, _⟩ := hl.1 _ _ h
    have ei : i = N := by omega
    have hR : R (.ok (.ret (.bool true))) s := fin s (ei ▸ h)
    obtain ⟨hh, g, d, tk, os⟩ := s
    wp_walk using wpAny_loadPart' hp, wpAny_loadPart' hq
    have n1 : p[((i : Nat) : Int).toNat]? = none := by simp; omega
    have n2 : q[((i : Nat) : Int).toNat]? = none := by simp; omega
    rw [n1, n2]
    wp_walk using wpAny_loadPart' hp, wpAny_loadPart' hq
    show R (.ok (.ret (.bool (p.size == q.size)))) _
    rw [sp, sq]
    simpa using hR
  | succ k ih =>
    intro i hk hi s h
    obtain ⟨p, q, n, m, hp, hq, sp, sq, turn⟩ := hl.1 _ _ h
    have lp : i < p.size := by omega
    have lq : i < q.size := by omega
    have ht := turn lp lq
    obtain ⟨hh, g, d, tk, os⟩ := s
    wp_walk using wpAny_loadPart' hp, wpAny_loadPart' hq
    have n1 : p[((i : Nat) : Int).toNat]? = some p[i] := by simp [lp]
    have n2 : q[((i : Nat) : Int).toNat]? = some q[i] := by simp [lq]
    have hc : ((i : Int) + 1) = ((i + 1 : Nat) : Int) := by omega
    rw [n1, n2]
    refine wpAny_bind (wpAny_mono ht (fun r s2 z => ?_) fun _ _ x => x)
    rcases z with ⟨hr, z⟩ | ⟨hr, z⟩
    · subst hr
      have hrec := ih (i + 1) (by omega) (by omega) s2 z
      obtain ⟨hp2, g2, d2, tk2, os2⟩ := s2
      wp_walk
      rw [hc]
      exact ⟨plainId_quiet plain_eq_loop _, codeAny_builtin entry_eq_loop (by
        rw [Around.under_plainId plain_eq_loop _]
        exact hrec)⟩
    · subst hr
      have hR := stop i s2 z
      obtain ⟨p3, q3, n3, m3, hp3, hq3, sp3, sq3⟩ := hl.2 i s2 (by omega) z
      obtain ⟨hh2, g2, d2, tk2, os2⟩ := s2
      wp_walk using wpAny_loadPart' hp3, wpAny_loadPart' hq3
      have n3 : p3[((i : Nat) : Int).toNat]? = some (p3[i]'(by omega)) := by
        have : i < p3.size := by omega
        simp [this]
      have n4 : q3[((i : Nat) : Int).toNat]? = some (q3[i]'(by omega)) := by
        have : i < q3.size := by omega
        simp [this]
      rw [n3, n4]
      wp_walk
      exact hR
theorem listEq (l b : Addr) (N : Nat) (I F : Nat → Shared → Prop) (hl : ListJ prog w A (fun e s' => R (.error e) s') l b N I F)
    (fin : ∀ s, I N s → R (.ok (.ret (.bool true))) s) (stop : ∀ i s, F i s → R (.ok (.ret (.bool false))) s) {s : Shared} (h : I 0 s) :
    wpAny (model prog w) A.in1 (Builtin.«list.__eq__» ⟨[.ref l, .ref b], []⟩) (GQ.FinOf prog w A R) (fun e s' => R (.error e) s') s := by
  obtain ⟨p, q, n, m, hp, hq, sp, sq, _⟩ := hl.1 _ _ h
  have hrec := loopEq (A := A) (R := R) l b N I F hl fin stop _ 0 rfl (Nat.zero_le _) s h
  obtain ⟨hh, g, d, tk, os⟩ := s
  have f3 := AutoSeq1.sub_list_list
  have hne : ¬ (p.size != q.size) = true := by simp [sp, sq]
  wp_walk using wpAny_loadPart' hp, wpAny_loadPart' hq
  exact ⟨plainId_quiet plain_eq_loop _, codeAny_builtin entry_eq_loop (by
    rw [Around.under_plainId plain_eq_loop _]
    exact hrec)⟩
theorem tupEq (l b : Addr) (p q : Array Value) (n m : Nat) (dd ee : Option Addr) (sl sm : Array (Option Value)) (hsz : p.size = q.size) (I : Nat → Shared → Prop) (F : Shared → Prop)
    (turn : ∀ i (h1 : i < p.size) (h2 : i < q.size) s, I i s → wpAny (model prog w) A.in1 (eqBool p[i] q[i]) (fun r s' => (r = true ∧ I (i + 1) s') ∨ (r = false ∧ F s')) (fun e s' => R (.error e) s') s)
    (fin : ∀ s, I p.size s → R (.ok (.ret (.bool true))) s) (stop : ∀ s, F s → R (.ok (.ret (.bool false))) s) {s : Shared} (hp : s.heap.get? l = some { cls := .type "tuple", dict := dd, data := .seq p n, slots := sl }) (hq : s.heap.get? b = some { cls := .type "tuple", dict := ee, data := .seq q m, slots := sm }) (h : I 0 s) :
    wpAny (model prog w) A.in1 (Builtin.«tuple.__eq__» ⟨[.ref l, .ref b], []⟩) (GQ.FinOf prog w A R) (fun e s' => R (.error e) s') s := by
  have f2 := AutoSeq1.sub_tuple_tuple
  have hZ : (p.toList.zip q.toList).length = p.size := by simp [hsz]
  have h0 := h
  obtain ⟨hh, g, d, tk, os⟩ := s
  wp_walk using wpAny_loadPart' hp, wpAny_loadPart' hq, wpAny_forIn_list _ (fun rest b s' => b.1 = none ∧ ∃ i, rest = (p.toList.zip q.toList).drop i ∧ i ≤ p.size ∧ I i s') _
  case turn =>
    rintro ⟨y, x⟩ rest b s' ⟨hb', i, hz, hi, hI⟩
    have hlt : i < (p.toList.zip q.toList).length := by
      rcases Nat.lt_or_ge i (p.toList.zip q.toList).length with h' | h'
      · exact h'
      · rw [List.drop_of_length_le h'] at hz; cases hz
    have h1 : i < p.size := hZ ▸ hlt
    have h2 : i < q.size := hsz ▸ h1
    rw [List.drop_eq_getElem_cons hlt] at hz
    injection hz with hyx hrest
    have hy : y = p[i] := by have := congrArg Prod.fst hyx; simpa using this
    have hx : x = q[i] := by have := congrArg Prod.snd hyx; simpa using this
    subst hy hx
    refine wpAny_bind (wpAny_mono (turn i h1 h2 s' hI) (fun r s2 z => ?_) fun _ _ x => x)
    rcases z with ⟨hr, z⟩ | ⟨hr, z⟩
    · subst hr
      wp_walk
      exact ⟨rfl, i + 1, hrest, h1, z⟩
    · subst hr
      have hR := stop s2 z
      wp_walk
      exact hR
  case fin =>
    rintro ⟨b1, b2⟩ s' ⟨hb', i, hz, hi, hI⟩
    simp only at hb'
    subst hb'
    have hge : p.size ≤ i := by
      rcases Nat.lt_or_ge i (p.toList.zip q.toList).length with h' | h'
      · rw [List.drop_eq_getElem_cons h'] at hz; cases hz
      · exact hZ ▸ h'
    have ei : i = p.size := by omega
    have hR := fin s' (ei ▸ hI)
    wp_walk
    simpa [Builtin.Tuple.tupleCompareSizes, hsz] using hR
  case h =>
    exact ⟨rfl, 0, rfl, Nat.zero_le _, h0⟩

theorem loopNe (l b : Addr) (N : Nat) (I F : Nat → Shared → Prop) (hl : ListJ prog w A (fun e s' => R (.error e) s') l b N I F)
    (fin : ∀ s, I N s → R (.ok (.ret (.bool false))) s) (stop : ∀ i s, F i s → R (.ok (.ret (.bool true))) s) : ∀ k i : Nat, N - i = k → i ≤ N → ∀ s, I i s →
      wpAny (model prog w) A.in1 (Builtin.«list.__eq__.loop» ⟨[.ref l, .ref b, rawInt i, rawInt 3], []⟩) (GQ.FinOf prog w A R) (fun e s' => R (.error e) s') s := by
  intro k
  induction k with
  | zero =>
    intro i hk hi s h
    obtain ⟨p, q, n, m, hp, hq, sp, sq, _⟩ := hl.1 _ _ h
    have ei : i = N := by omega
    have hR : R (.ok (.ret (.bool false))) s := fin s (ei ▸ h)
    obtain ⟨hh, g, d, tk, os⟩ := s
    wp_walk using wpAny_loadPart' hp, wpAny_loadPart' hq
    have n1 : p[((i : Nat) : Int).toNat]? = none := by simp; omega
    have n2 : q[((i : Nat) : Int).toNat]? = none := by simp; omega
    rw [n1, n2]
    wp_walk using wpAny_loadPart' hp, wpAny_loadPart' hq
    show R (.ok (.ret (.bool (p.size != q.size)))) _
    rw [sp, sq]
    simpa using hR
  | succ k ih =>
    intro i hk hi s h
    obtain ⟨p, q, n, m, hp, hq, sp, sq, turn⟩ := hl.1 _ _ h
    have lp : i < p.size := by omega
    have lq : i < q.size := by omega
    have ht := turn lp lq
    obtain ⟨hh, g, d, tk, os⟩ := s
    wp_walk using wpAny_loadPart' hp, wpAny_loadPart' hq
    have n1 : p[((i : Nat) : Int).toNat]? = some p[i] := by simp [lp]
    have n2 : q[((i : Nat) : Int).toNat]? = some q[i] := by simp [lq]
    have hc : ((i : Int) + 1) = ((i + 1 : Nat) : Int) := by omega
    rw [n1, n2]
    refine wpAny_bind (wpAny_mono ht (fun r s2 z => ?_) fun _ _ x => x)
    rcases z with ⟨hr, z⟩ | ⟨hr, z⟩
    · subst hr
      have hrec := ih (i + 1) (by omega) (by omega) s2 z
      obtain ⟨hp2, g2, d2, tk2, os2⟩ := s2
      wp_walk
      rw [hc]
      exact ⟨plainId_quiet plain_eq_loop _, codeAny_builtin entry_eq_loop (by
        rw [Around.under_plainId plain_eq_loop _]
        exact hrec)⟩
    · subst hr
      have hR := stop i s2 z
      obtain ⟨p3, q3, n3, m3, hp3, hq3, sp3, sq3⟩ := hl.2 i s2 (by omega) z
      obtain ⟨hh2, g2, d2, tk2, os2⟩ := s2
      wp_walk using wpAny_loadPart' hp3, wpAny_loadPart' hq3
      have n3 : p3[((i : Nat) : Int).toNat]? = some (p3[i]'(by omega)) := by
        have : i < p3.size := by omega
        simp [this]
      have n4 : q3[((i : Nat) : Int).toNat]? = some (q3[i]'(by omega)) := by
        have : i < q3.size := by omega
        simp [this]
      rw [n3, n4]
      wp_walk
      exact hR
theorem listNe (l b : Addr) (N : Nat) (I F : Nat → Shared → Prop) (hl : ListJ prog w A (fun e s' => R (.error e) s') l b N I F)
    (fin : ∀ s, I N s → R (.ok (.ret (.bool false))) s) (stop : ∀ i s, F i s → R (.ok (.ret (.bool true))) s) {s : Shared} (h : I 0 s) :
    wpAny (model prog w) A.in1 (Builtin.«list.__ne__» ⟨[.ref l, .ref b], []⟩) (GQ.FinOf prog w A R) (fun e s' => R (.error e) s') s := by
  obtain ⟨p, q, n, m, hp, hq, sp, sq, _⟩ := hl.1 _ _ h
  have hrec := loopNe (A := A) (R := R) l b N I F hl fin stop _ 0 rfl (Nat.zero_le _) s h
  obtain ⟨hh, g, d, tk, os⟩ := s
  have f3 := AutoSeq1.sub_list_list
  have hne : ¬ (p.size != q.size) = true := by simp [sp, sq]
  wp_walk using wpAny_loadPart' hp, wpAny_loadPart' hq
  exact ⟨plainId_quiet plain_eq_loop _, codeAny_builtin entry_eq_loop (by
    rw [Around.under_plainId plain_eq_loop _]
    exact hrec)⟩
theorem tupNe (l b : Addr) (p q : Array Value) (n m : Nat) (dd ee : Option Addr) (sl sm : Array (Option Value)) (hsz : p.size = q.size) (I : Nat → Shared → Prop) (F : Shared → Prop)
    (turn : ∀ i (h1 : i < p.size) (h2 : i < q.size) s, I i s → wpAny (model prog w) A.in1 (eqBool p[i] q[i]) (fun r s' => (r = true ∧ I (i + 1) s') ∨ (r = false ∧ F s')) (fun e s' => R (.error e) s') s)
    (fin : ∀ s, I p.size s → R (.ok (.ret (.bool false))) s) (stop : ∀ s, F s → R (.ok (.ret (.bool true))) s) {s : Shared} (hp : s.heap.get? l = some { cls := .type "tuple", dict := dd, data := .seq p n, slots := sl }) (hq : s.heap.get? b = some { cls := .type "tuple", dict := ee, data := .seq q m, slots := sm }) (h : I 0 s) :
    wpAny (model prog w) A.in1 (Builtin.«tuple.__ne__» ⟨[.ref l, .ref b], []⟩) (GQ.FinOf prog w A R) (fun e s' => R (.error e) s') s := by
  have f2 := AutoSeq1.sub_tuple_tuple
  have hZ : (p.toList.zip q.toList).length = p.size := by simp [hsz]
  have h0 := h
  obtain ⟨hh, g, d, tk, os⟩ := s
  wp_walk using wpAny_loadPart' hp, wpAny_loadPart' hq, wpAny_forIn_list _ (fun rest b s' => b.1 = none ∧ ∃ i, rest = (p.toList.zip q.toList).drop i ∧ i ≤ p.size ∧ I i s') _
  case turn =>
    rintro ⟨y, x⟩ rest b s' ⟨hb', i, hz, hi, hI⟩
    have hlt : i < (p.toList.zip q.toList).length := by
      rcases Nat.lt_or_ge i (p.toList.zip q.toList).length with h' | h'
      · exact h'
      · rw [List.drop_of_length_le h'] at hz; cases hz
    have h1 : i < p.size := hZ ▸ hlt
    have h2 : i < q.size := hsz ▸ h1
    rw [List.drop_eq_getElem_cons hlt] at hz
    injection hz with hyx hrest
    have hy : y = p[i] := by have := congrArg Prod.fst hyx; simpa using this
    have hx : x = q[i] := by have := congrArg Prod.snd hyx; simpa using this
    subst hy hx
    refine wpAny_bind (wpAny_mono (turn i h1 h2 s' hI) (fun r s2 z => ?_) fun _ _ x => x)
    rcases z with ⟨hr, z⟩ | ⟨hr, z⟩
    · subst hr
      wp_walk
      exact ⟨rfl, i + 1, hrest, h1, z⟩
    · subst hr
      have hR := stop s2 z
      wp_walk
      exact hR
  case fin =>
    rintro ⟨b1, b2⟩ s' ⟨hb', i, hz, hi, hI⟩
    simp only at hb'
    subst hb'
    have hge : p.size ≤ i := by
      rcases Nat.lt_or_ge i (p.toList.zip q.toList).length with h' | h'
      · rw [List.drop_eq_getElem_cons h'] at hz; cases hz
      · exact hZ ▸ h'
    have ei : i = p.size := by omega
    have hR := fin s' (ei ▸ hI)
    wp_walk
    simpa [Builtin.Tuple.tupleCompareSizes, hsz] using hR
  case h =>
    exact ⟨rfl, 0, rfl, Nat.zero_le _, h0⟩
end
section
variable {prog : Program} {w : World} {A : Around} {E : Value → Shared → Prop} {s : Shared}
theorem rcLEq {l b : Addr} {N : Nat} {Q : Value → Shared → Prop} (hu : A.units < cLine) (I F : Nat → Shared → Prop) (hl : ListJ prog w A E l b N I F)
    (fin : ∀ s, I N s → Q (.bool true) s) (stop : ∀ i s, F i s → Q (.bool false) s) (h : I 0 s) : wpAny (model prog w) A (richCompare .Eq (.ref l) (.ref b)) Q E s := by
  obtain ⟨p, q, n, m, hp, hq, _, _, _⟩ := hl.1 _ _ h
  refine wpAny_richCompare_same_room (op := .Eq) ⟨_, hp, rfl⟩ ⟨_, hq, rfl⟩ PySem.F.slot_list_eq (GQ.call_here PySem.F.slot_list_eq ⟨_, hp, rfl⟩ PySem.F.entry_list_eq (PySem.F.args_list_eq_2 _ _) ?_) hu
  exact listEq (R := wants (fun v s' => v ≠ .notImplemented ∧ Q v s') E) l b N I F hl (fun s' z => ⟨(fun x => nomatch x), fin s' z⟩) (fun i s' z => ⟨(fun x => nomatch x), stop i s' z⟩) h
theorem rcTEq {l b : Addr} {p q : Array Value} {Q : Value → Shared → Prop} (hsz : p.size = q.size) (hu : A.units < cLine) (I : Nat → Shared → Prop) (F : Shared → Prop)
    (hl : s.heap.IsTuple l p) (hb : s.heap.IsTuple b q)
    (turn : ∀ i (h1 : i < p.size) (h2 : i < q.size) s, I i s → wpAny (model prog w) A.in1 (eqBool p[i] q[i]) (fun r s' => (r = true ∧ I (i + 1) s') ∨ (r = false ∧ F s')) E s)
    (fin : ∀ s, I p.size s → Q (.bool true) s) (stop : ∀ s, F s → Q (.bool false) s) (h : I 0 s) : wpAny (model prog w) A (richCompare .Eq (.ref l) (.ref b)) Q E s := by
  obtain ⟨⟨cls, dd, data, sl⟩, ho, hc, n, hd⟩ := id hl
  obtain ⟨⟨cls2, dd2, data2, sl2⟩, ho2, hc2, n2, hd2⟩ := id hb
  simp only at hc hd hc2 hd2
  subst hc hd hc2 hd2
  refine wpAny_richCompare_same_room (op := .Eq) ⟨_, ho, rfl⟩ ⟨_, ho2, rfl⟩ PySem.F.slot_tuple_eq (GQ.call_here PySem.F.slot_tuple_eq ⟨_, ho, rfl⟩ PySem.F.entry_tuple_eq (PySem.F.args_tuple_eq_2 _ _) ?_) hu
  exact tupEq (R := wants (fun v s' => v ≠ .notImplemented ∧ Q v s') E) l b p q n n2 dd dd2 sl sl2 hsz I F turn (fun s' z => ⟨(fun x => nomatch x), fin s' z⟩) (fun s' z => ⟨(fun x => nomatch x), stop s' z⟩) ho ho2 h

theorem rcLNe {l b : Addr} {N : Nat} {Q : Value → Shared → Prop} (hu : A.units < cLine) (I F : Nat → Shared → Prop) (hl : ListJ prog w A E l b N I F)
    (fin : ∀ s, I N s → Q (.bool false) s) (stop : ∀ i s, F i s → Q (.bool true) s) (h : I 0 s) : wpAny (model prog w) A (richCompare .NotEq (.ref l) (.ref b)) Q E s := by
  obtain ⟨p, q, n, m, hp, hq, _, _, _⟩ := hl.1 _ _ h
  refine wpAny_richCompare_same_room (op := .NotEq) ⟨_, hp, rfl⟩ ⟨_, hq, rfl⟩ PySem.F.slot_list_ne (GQ.call_here PySem.F.slot_list_ne ⟨_, hp, rfl⟩ PySem.F.entry_list_ne (PySem.F.args_list_ne_2 _ _) ?_) hu
  exact listNe (R := wants (fun v s' => v ≠ .notImplemented ∧ Q v s') E) l b N I F hl (fun s' z => ⟨(fun x => nomatch x), fin s' z⟩) (fun i s' z => ⟨(fun x => nomatch x), stop i s' z⟩) h
theorem rcTNe {l b : Addr} {p q : Array Value} {Q : Value → Shared → Prop} (hsz : p.size = q.size) (hu : A.units < cLine) (I : Nat → Shared → Prop) (F : Shared → Prop)
    (hl : s.heap.IsTuple l p) (hb : s.heap.IsTuple b q)
    (turn : ∀ i (h1 : i < p.size) (h2 : i < q.size) s, I i s → wpAny (model prog w) A.in1 (eqBool p[i] q[i]) (fun r s' => (r = true ∧ I (i + 1) s') ∨ (r = false ∧ F s')) E s)
    (fin : ∀ s, I p.size s → Q (.bool false) s) (stop : ∀ s, F s → Q (.bool true) s) (h : I 0 s) : wpAny (model prog w) A (richCompare .NotEq (.ref l) (.ref b)) Q E s := by
  obtain ⟨⟨cls, dd, data, sl⟩, ho, hc, n, hd⟩ := id hl
  obtain ⟨⟨cls2, dd2, data2, sl2⟩, ho2, hc2, n2, hd2⟩ := id hb
  simp only at hc hd hc2 hd2
  subst hc hd hc2 hd2
  refine wpAny_richCompare_same_room (op := .NotEq) ⟨_, ho, rfl⟩ ⟨_, ho2, rfl⟩ PySem.F.slot_tuple_ne (GQ.call_here PySem.F.slot_tuple_ne ⟨_, ho, rfl⟩ PySem.F.entry_tuple_ne (PySem.F.args_tuple_ne_2 _ _) ?_) hu
  exact tupNe (R := wants (fun v s' => v ≠ .notImplemented ∧ Q v s') E) l b p q n n2 dd dd2 sl sl2 hsz I F turn (fun s' z => ⟨(fun x => nomatch x), fin s' z⟩) (fun s' z => ⟨(fun x => nomatch x), stop s' z⟩) ho ho2 h
end
end SmQ

set_option Elab.async false
set_option linter.all false
set_option maxRecDepth 100000
set_option maxHeartbeats 4000000
namespace Sm
open L2 PySem PySem.Spec
/-! ### == of data with frozen instances in it -/
def simAll (f : IV → IV → Bool) : List IV → List IV → Bool
  | x :: xs, y :: ys => f x y && simAll f xs ys
  | [], [] => true
  | _, _ => false
/-- may the two be one thing? -/
def simB : Nat → IV → IV → Bool
  | 0, _, _ => true
  | n + 1, x, y => match x, y with
    | .non, .non => true
    | .bl a, .bl b => a == b
    | .int i, .int j => i == j
    | .str a, .str b => a == b
    | .tup xs, .tup ys => simAll (simB n) xs ys
    | .rl xs, .rl ys => simAll (simB n) xs ys
    | .ref a, .ref b => a == b
    | .obj _ ns xs, .obj _ ms ys => decide (ns = ms) && simAll (simB n) xs ys
    | .fd _ _, .fd _ _ => true
    | .cls _, .cls _ => true
    | _, _ => false
theorem simAll_ok {f : IV → IV → Bool} (hf : ∀ x y, Sim x y → f x y = true) : ∀ {xs ys : List IV}, Sims xs ys → simAll f xs ys = true
  | _, _, .nil => rfl
  | _, _, .cons a b => by
    unfold simAll
    rw [hf _ _ a, simAll_ok hf b]
    rfl
theorem simAll_rf {f : IV → IV → Bool} (hf : ∀ x, f x x = true) : ∀ xs : List IV, simAll f xs xs = true
  | [] => rfl
  | x :: xs => by
    unfold simAll
    rw [hf x, simAll_rf hf xs]
    rfl
theorem simB_rf : ∀ (n : Nat) (x : IV), simB n x x = true
  | 0, _ => rfl
  | n + 1, x => by
    cases x with
    | non => rfl
    | fd _ _ => rfl
    | cls _ => rfl
    | bl a => exact beq_self_eq_true a
    | int a => exact beq_self_eq_true a
    | str a => exact beq_self_eq_true a
    | ref a => exact beq_self_eq_true a
    | tup xs => exact simAll_rf (simB_rf n) xs
    | rl xs => exact simAll_rf (simB_rf n) xs
    | obj c ns xs =>
      show (decide (ns = ns) && simAll (simB n) xs xs) = true
      rw [simAll_rf (simB_rf n) xs]
      simp
theorem simB_ok : ∀ (n : Nat) (x y : IV), Sim x y → simB n x y = true
  | 0, _, _, _ => rfl
  | n + 1, _, _, .same x => simB_rf (n + 1) x
  | n + 1, _, _, .tup h => simAll_ok (simB_ok n) h
  | n + 1, _, _, .rl h => simAll_ok (simB_ok n) h
  | n + 1, _, _, .fd _ _ _ _ => rfl
  | n + 1, _, _, .cls _ _ => rfl
  | n + 1, .obj _ ns xs, .obj _ _ ys, .obj _ _ _ h => by
    show (decide (ns = ns) && simAll (simB n) xs ys) = true
    rw [simAll_ok (simB_ok n) h]
    simp
def eqDs (f : IV → IV → Option Bool) : List IV → List IV → Option Bool
  | x :: xs, y :: ys => match f x y with
    | some true => eqDs f xs ys
    | some false => some false
    | none => none
  | _, _ => some true
/-- two frozen instances by the own == of their class -/
def eqO (alts : Alts) (x y : IV) : Option Bool := match x, y with
  | .obj c _ xs, .obj d _ ys => if (decide (c = d) && (clIs xs && clIs ys)) = true then (match alts.lookup c with
    | some f => (match f [x, y] [] with
      | .ok (.bl b) _ => if (b || !simB 40 x y) = true then some b else none
      | _ => none)
    | none => none) else none
  | _, _ => none
def seqD (st : Hs) (f : IV → IV → Option Bool) (x y : IV) : Option Bool := match x, y with
  | .tup xs, .tup ys => if xs.length = ys.length then eqDs f xs ys else none
  | .ref a, .ref b => match ioL st[a]?, ioL st[b]? with
    | some xs, some ys => if xs.length = ys.length then eqDs f xs ys else none
    | _, _ => none
  | _, _ => none
def eqD (alts : Alts) (st : Hs) : Nat → IV → IV → Option Bool
  | 0, _, _ => none
  | n + 1, x, y => match eqI st (n + 1) x y with
    | some b => some b
    | none => match eqO alts x y with
      | some b => some b
      | none => seqD st (eqD alts st n) x y
theorem eqDs_sim {f : IV → IV → Option Bool} (hf : ∀ x y b, Sim x y → f x y = some b → b = true) : ∀ {xs ys : List IV} {b : Bool}, Sims xs ys → eqDs f xs ys = some b → b = true
  | _, _, b, .nil, h => by cases h; rfl
  | _, _, b, .cons a s, h => by
    unfold eqDs at h
    split at h
    · exact eqDs_sim hf s h
    · rename_i e
      have := hf _ _ _ a e
      cases this
    · cases h
theorem eqO_sim {alts : Alts} {x y : IV} {b : Bool} (s : Sim x y) (h : eqO alts x y = some b) : b = true := by
  unfold eqO at h
  split at h
  · rename_i c ns xs d ms ys
    split at h
    · split at h
      · rename_i f _
        split at h
        · rename_i b' st' _
          split at h
          · rename_i q
            cases h
            rw [simB_ok 40 _ _ s] at q
            simpa using q
          · cases h
        · cases h
      · cases h
    · cases h
  · cases h
theorem seqD_sim {st : Hs} {f : IV → IV → Option Bool} (hf : ∀ x y b, Sim x y → f x y = some b → b = true) {x y : IV} {b : Bool} (s : Sim x y) (h : seqD st f x y = some b) : b = true := by
  cases s with
  | same x =>
    have rf : ∀ xs : List IV, Sims xs xs := fun xs => by
      induction xs with
      | nil => exact .nil
      | cons x xs ih => exact .cons (.same x) ih
    cases x with
    | tup xs =>
      unfold seqD at h
      dsimp only at h
      rw [if_pos rfl] at h
      exact eqDs_sim hf (rf xs) h
    | ref a =>
      unfold seqD at h
      dsimp only at h
      cases k : ioL st[a]? with
      | none => rw [k] at h; cases h
      | some xs =>
        rw [k] at h
        simp only [if_true] at h
        exact eqDs_sim hf (rf xs) h
    | _ => cases h
  | tup hs =>
    unfold seqD at h
    dsimp only at h
    rw [if_pos hs.length] at h
    exact eqDs_sim hf hs h
  | rl hs => cases h
  | obj c d ns hs => cases h
  | fd _ _ _ _ => cases h
  | cls _ _ => cases h
theorem eqD_sim {alts : Alts} {st : Hs} : ∀ (n : Nat) (x y : IV) (b : Bool), Sim x y → eqD alts st n x y = some b → b = true
  | 0, _, _, _, _, h => by cases h
  | n + 1, x, y, b, s, h => by
    unfold eqD at h
    cases k : eqI st (n + 1) x y with
    | some c =>
      rw [k] at h
      cases h
      rw [← (eqI_sim (st := st) (n + 1) x y x s).2] at k
      exact eqI_refl _ _ _ k
    | none =>
      rw [k] at h
      dsimp only at h
      cases k2 : eqO alts x y with
      | some c => rw [k2] at h; cases h; exact eqO_sim s k2
      | none =>
        rw [k2] at h
        exact seqD_sim (eqD_sim n) s h
section
variable {X : Cx} {pins : List (Addr × Obj)} {σ : L2.St} {H H' : Hp} {s s' : Shared} {r r' : List Addr} {st : Hs} {k : Nat} {alts : Alts}
/-- behind a comparison: only new things -/
def AftD (X : Cx) (pins : List (Addr × Obj)) (σ : L2.St) (r : List Addr) (H : Hp) (st : Hs) (s' : Shared) : Prop := ∃ r' H', Inv X pins σ H' s' ∧ Xt r H r' H' ∧ Mt X.K H' r' st
theorem AftD.here (I : Inv X pins σ H s) (m : Mt X.K H r st) : AftD X pins σ r H st s := ⟨r, H, I, Xt.refl, m⟩
/-- somewhere below the running body -/
structure SubD (X : Cx) (k n : Nat) (A : Around) : Prop where
  room : Room (k + n) A
  fr : A.frames = X.A.frames
  gd : A.guards = some []
theorem SubD.in1 {n : Nat} {A : Around} (h : SubD X k (n + 1) A) : SubD X k n A.in1 := ⟨by
  have := h.room
  exact Room.in1 (by simpa [Nat.add_assoc] using this), h.fr, h.gd⟩
/-- two frozen instances, by a call of the own def -/
theorem own_at (F : EqF X.prog X.w X.K X.mg X.base k alts) {n : Nat} {A : Around} (sb : SubD X k n A) (I : Inv X pins σ H s) (m : Mt X.K H r st) {x y : IV} {b : Bool} {v w : V} {u1 u2 : Value} (h : eqO alts x y = some b) (rx : RV X.K H r x v) (ry : RV X.K H r y w) (q1 : RelV v u1) (q2 : RelV w u2) :
    ∃ p q, u1 = .ref p ∧ u2 = .ref q ∧ wpAny (model X.prog X.w) A (richCompare .Eq (.ref p) (.ref q)) (fun z s' => z = .bool b ∧ AftD X pins σ r H st s') X.xe s := by
  unfold eqO at h
  split at h
  · rename_i c ns xs d ms ys
    split at h
    · rename_i hc
      obtain ⟨hcd, hcl⟩ := Bool.and_eq_true_iff.mp hc
      obtain ⟨cx, cy⟩ := Bool.and_eq_true_iff.mp hcl
      have hcd := of_decide_eq_true hcd
      subst hcd
      split at h
      · rename_i f hf
        split at h
        · rename_i b' st' he
          split at h
          · cases h
            cases rx with
            | @obj _ _ p dx fs vs _ hp np hdx ndx e1 e2 hs =>
            cases ry with
            | @obj _ _ p' dx' fs' vs' _ hp' np' hdx' ndx' e1' e2' hs' =>
            cases (show u1 = Value.ref p from q1)
            cases (show u2 = Value.ref p' from q2)
            refine ⟨p, p', rfl, rfl, ?_⟩
            obtain ⟨g, fd, ps, G, hps, cl, mt, hb⟩ := F.cal c f hf
            have hrun : runC f [.obj c ns xs, .obj c ms ys] st = .ok (.bl b) st := runC_cl (by simp [clIs, clI, cx, cy]) rfl ⟨st', he⟩
            have hsp : spM X.K X.mg f [V.ref p, V.ref p'] H (fun z H2 => z = .bl b ∧ ∃ r2, Xt r H r2 H2 ∧ Mt X.K H2 r2 st) (WE W0 σ) := aft_sp (.cons (.obj hp np hdx ndx e1 e2 hs) (.cons (.obj hp' np' hdx' ndx' e1' e2' hs') .nil)) m (by
              rw [hrun]
              intro r2 H2 z x2 m2 rz
              have rz : RV X.K H2 r2 (.bl b) z := rz
              cases rz
              exact ⟨rfl, r2, x2, m2⟩)
            have e0 : Env0 X.prog X.w X.K X.mg X.base A X.stack s H := by
              have e := I.env0
              exact ⟨by rw [sb.fr]; exact e.frames, e.mod, e.bs, e.bsz, e.funs, e.frf, e.hok, e.bare⟩
            have bt := hb s [.ref p, .ref p'] I.kIn (by rw [List.append_nil, hps]; rfl)
            rw [List.append_nil] at bt
            obtain ⟨mA, J, _⟩ := ins_get I.hok hp
            obtain ⟨od, J, _⟩ := J.look
            obtain ⟨mB, J', _⟩ := ins_get I.hok hp'
            obtain ⟨od', J', _⟩ := J'.look
            obtain ⟨mm, hF⟩ := I.fr
            refine PySem.W.cmp_K (op := .Eq) (tb := .ref (He.ga X.K c)) sb.room.units0 hF I.ok.mod.kin J J'.type (by simp [PySem.W.notFirst]) mt.at_ mt.fn ?_
            refine wpAny_call (codeAny_mono (G A X.stack s H ⟨[.ref p, .ref p'], []⟩ _ [.ref p, .ref p'] _ (WE W0 σ) (sb.room.mono (by omega)) sb.gd e0 bt (.cons rfl (.cons rfl .nil)) (by rw [hps]; rfl) hsp) fun res s' z => ?_)
            match res, z with
            | .error u, z => exact pass_0 σ pins H s u s' I z
            | .ok (.ret u), z =>
              obtain ⟨z2, H2, I2, rz, ez, r2, x2, m2⟩ := I.after z
              subst ez
              cases (show u = Value.bool b from rz)
              exact ⟨rfl, r2, H2, I2, x2, m2⟩
            | .ok .next, z => exact z.elim
            | .ok .brk, z => exact z.elim
            | .ok .cont, z => exact z.elim
          · cases h
        · cases h
      · cases h
    · cases h
  · cases h
theorem AftD.trans {r1 : List Addr} {H1 : Hp} (x : Xt r H r1 H1) (h : AftD X pins σ r1 H1 st s') : AftD X pins σ r H st s' := by
  obtain ⟨r2, H2, I2, x2, m2⟩ := h
  exact ⟨r2, H2, I2, x.trans x2, m2⟩
/-- how an item is compared, at any later time -/
def ItmD (X : Cx) (pins : List (Addr × Obj)) (σ : L2.St) (st : Hs) (A : Around) (f : IV → IV → Option Bool) : Prop :=
  ∀ {s : Shared} {r : List Addr} {H : Hp} {x y : IV} {b : Bool} {v w : V} {u1 u2 : Value}, Inv X pins σ H s → Mt X.K H r st → f x y = some b → RV X.K H r x v → RV X.K H r y w → RelV v u1 → RelV w u2 →
    wpAny (model X.prog X.w) A (eqBool u1 u2) (fun z s' => z = b ∧ AftD X pins σ r H st s') X.xe s
theorem eqDs_turn {f : IV → IV → Option Bool} {xs ys : List IV} {i : Nat} {b : Bool} (h1 : i < xs.length) (h2 : i < ys.length) (h : eqDs f (xs.drop i) (ys.drop i) = some b) : ∃ c, f xs[i] ys[i] = some c ∧ (c = true → eqDs f (xs.drop (i + 1)) (ys.drop (i + 1)) = some b) ∧ (c = false → b = false) := by
  rw [List.drop_eq_getElem_cons h1, List.drop_eq_getElem_cons h2] at h
  unfold eqDs at h
  split at h
  · rename_i e
    exact ⟨true, e, fun _ => h, fun z => by cases z⟩
  · rename_i e
    cases h
    exact ⟨false, e, (fun z => by cases z), fun _ => rfl⟩
  · cases h
/-- one turn -/
theorem turnD {f : IV → IV → Option Bool} {A : Around} (it : ItmD X pins σ st A f) {xs ys : List IV} {vs ws : List V} {us us2 : List Value} {b : Bool} {i : Nat} (I : Inv X pins σ H s) (m : Mt X.K H r st) (rs : RVs X.K H r xs vs) (rs2 : RVs X.K H r ys ws) (va : Vals vs us) (va2 : Vals ws us2)
    (h1 : i < us.toArray.size) (h2 : i < us2.toArray.size) (h : eqDs f (xs.drop i) (ys.drop i) = some b) :
    wpAny (model X.prog X.w) A (eqBool us.toArray[i] us2.toArray[i]) (fun z s' => AftD X pins σ r H st s' ∧ ((z = true ∧ eqDs f (xs.drop (i + 1)) (ys.drop (i + 1)) = some b) ∨ (z = false ∧ b = false))) X.xe s := by
  have l1 : i < us.length := by simpa using h1
  have l2 : i < us2.length := by simpa using h2
  have k1 : i < xs.length := by rw [rs.length, va.length]; exact l1
  have k2 : i < ys.length := by rw [rs2.length, va2.length]; exact l2
  obtain ⟨c, ec, c1, c2⟩ := eqDs_turn k1 k2 h
  obtain ⟨v, hv, rv⟩ := rs.get (List.getElem?_eq_getElem k1)
  obtain ⟨w, hw, rw1⟩ := rs2.get (List.getElem?_eq_getElem k2)
  obtain ⟨u, hu, ru⟩ := va.get hv
  obtain ⟨u2, hu2, ru2⟩ := va2.get hw
  rw [List.getElem?_eq_getElem l1] at hu
  rw [List.getElem?_eq_getElem l2] at hu2
  have e1 : us.toArray[i] = u := by simpa using Option.some.inj hu
  have e2 : us2.toArray[i] = u2 := by simpa using Option.some.inj hu2
  rw [e1, e2]
  refine wpAny_mono (it I m ec rv rw1 ru ru2) (fun z s' q => ?_) fun _ _ e => e
  obtain ⟨rfl, a⟩ := q
  refine ⟨a, ?_⟩
  cases z with
  | true => exact .inl ⟨rfl, c1 rfl⟩
  | false => exact .inr ⟨rfl, c2 rfl⟩
/-- two sequences -/
theorem seq_at2 {f : IV → IV → Option Bool} {A : Around} (hu : A.units < cLine) (it : ItmD X pins σ st A.in1 f) (I : Inv X pins σ H s) (m : Mt X.K H r st) {x y : IV} {b : Bool} {v w : V} {u1 u2 : Value} (h : seqD st f x y = some b) (rx : RV X.K H r x v) (ry : RV X.K H r y w) (q1 : RelV v u1) (q2 : RelV w u2) :
    ∃ p q, u1 = .ref p ∧ u2 = .ref q ∧ wpAny (model X.prog X.w) A (richCompare .Eq (.ref p) (.ref q)) (fun z s' => z = .bool b ∧ AftD X pins σ r H st s') X.xe s ∧ wpAny (model X.prog X.w) A (richCompare .NotEq (.ref p) (.ref q)) (fun z s' => z = .bool (!b) ∧ AftD X pins σ r H st s') X.xe s := by
  unfold seqD at h
  split at h
  · rename_i xs ys
    split at h
    · rename_i hl
      cases rx with
      | @tup p vs _ hp rs =>
      cases ry with
      | @tup q ws _ hq rs2 =>
      cases (show u1 = Value.ref p from q1)
      cases (show u2 = Value.ref q from q2)
      obtain ⟨us, va, tp, _⟩ := I.tuple hp
      obtain ⟨us2, va2, tq, _⟩ := I.tuple hq
      have hsz : us.toArray.size = us2.toArray.size := by
        rw [List.size_toArray, List.size_toArray, ← va.length, ← va2.length, ← rs.length, ← rs2.length, hl]
      have turn : ∀ i (h1 : i < us.toArray.size) (h2 : i < us2.toArray.size) s', (AftD X pins σ r H st s' ∧ eqDs f (xs.drop i) (ys.drop i) = some b) → wpAny (model X.prog X.w) A.in1 (eqBool us.toArray[i] us2.toArray[i]) (fun z s2 => (z = true ∧ (AftD X pins σ r H st s2 ∧ eqDs f (xs.drop (i + 1)) (ys.drop (i + 1)) = some b)) ∨ (z = false ∧ (AftD X pins σ r H st s2 ∧ b = false))) X.xe s' := fun i h1 h2 s' ⟨⟨r', H', I', x', m'⟩, e⟩ =>
        wpAny_mono (turnD it I' m' (rs.mono x' m) (rs2.mono x' m) va va2 h1 h2 e) (fun z s2 ⟨a, q⟩ => q.elim (fun ⟨e1, e2⟩ => .inl ⟨e1, a.trans x', e2⟩) fun ⟨e1, e2⟩ => .inr ⟨e1, a.trans x', e2⟩) fun _ _ e => e
      have fin : ∀ s', (AftD X pins σ r H st s' ∧ eqDs f (xs.drop us.toArray.size) (ys.drop us.toArray.size) = some b) → b = true := fun s' ⟨_, e⟩ => by
        have el : us.toArray.size = xs.length := by rw [List.size_toArray, ← va.length, ← rs.length]
        rw [el, List.drop_length] at e
        cases e
        rfl
      refine ⟨p, q, rfl, rfl, ?_, ?_⟩
      · exact SmQ.rcTEq hsz hu (fun i s' => AftD X pins σ r H st s' ∧ eqDs f (xs.drop i) (ys.drop i) = some b) (fun s' => AftD X pins σ r H st s' ∧ b = false) tp tq turn (fun s' q => ⟨by rw [fin s' q], q.1⟩) (fun s' q => ⟨by rw [q.2], q.1⟩) ⟨.here I m, h⟩
      · exact SmQ.rcTNe hsz hu (fun i s' => AftD X pins σ r H st s' ∧ eqDs f (xs.drop i) (ys.drop i) = some b) (fun s' => AftD X pins σ r H st s' ∧ b = false) tp tq turn (fun s' q => ⟨by rw [fin s' q]; rfl, q.1⟩) (fun s' q => ⟨by rw [q.2]; rfl, q.1⟩) ⟨.here I m, h⟩
    · cases h
  · rename_i a c
    split at h
    · rename_i xs ys ha hc
      split at h
      · rename_i hl
        cases rx with
        | @ref _ p hp =>
        cases ry with
        | @ref _ q hq =>
        cases (show u1 = Value.ref p from q1)
        cases (show u2 = Value.ref q from q2)
        have look : ∀ {s' : Shared}, AftD X pins σ r H st s' → ∃ (r' : List Addr) (H' : Hp) (vs ws : List V) (us us2 : List Value) (n n2 : Nat), Inv X pins σ H' s' ∧ Xt r H r' H' ∧ Mt X.K H' r' st ∧ RVs X.K H' r' xs vs ∧ RVs X.K H' r' ys ws ∧ Vals vs us ∧ Vals ws us2 ∧ s'.heap.get? p = some { cls := .type "list", data := .seq us.toArray n } ∧ s'.heap.get? q = some { cls := .type "list", data := .seq us2.toArray n2 } := fun {s'} ⟨r', H', I', x', m'⟩ => by
          obtain ⟨vs, e1, rs⟩ := m'.at_ _ _ _ (ioL_some ha) (x'.get hp)
          obtain ⟨ws, e2, rs2⟩ := m'.at_ _ _ _ (ioL_some hc) (x'.get hq)
          obtain ⟨_, us, n, va, g1⟩ := (show ObjOk X.prog X.w H' s'.heap p (.lst vs) from I'.hok p _ e1)
          obtain ⟨_, us2, n2, va2, g2⟩ := (show ObjOk X.prog X.w H' s'.heap q (.lst ws) from I'.hok q _ e2)
          exact ⟨r', H', vs, ws, us, us2, n, n2, I', x', m', rs, rs2, va, va2, g1, g2⟩
        have J : SmQ.ListJ X.prog X.w A X.xe p q xs.length (fun i s' => AftD X pins σ r H st s' ∧ eqDs f (xs.drop i) (ys.drop i) = some b) (fun _ s' => AftD X pins σ r H st s' ∧ b = false) := by
          refine ⟨fun i s' ⟨af, e⟩ => ?_, fun i s' _ ⟨af, _⟩ => ?_⟩
          · obtain ⟨r', H', vs, ws, us, us2, n, n2, I', x', m', rs, rs2, va, va2, g1, g2⟩ := look af
            refine ⟨us.toArray, us2.toArray, n, n2, g1, g2, by rw [List.size_toArray, ← va.length, ← rs.length], by rw [List.size_toArray, ← va2.length, ← rs2.length, hl], fun h1 h2 => ?_⟩
            exact wpAny_mono (turnD it I' m' rs rs2 va va2 h1 h2 e) (fun z s2 ⟨a, q⟩ => q.elim (fun ⟨e1, e2⟩ => .inl ⟨e1, a.trans x', e2⟩) fun ⟨e1, e2⟩ => .inr ⟨e1, a.trans x', e2⟩) fun _ _ e => e
          · obtain ⟨r', H', vs, ws, us, us2, n, n2, I', x', m', rs, rs2, va, va2, g1, g2⟩ := look af
            exact ⟨us.toArray, us2.toArray, n, n2, g1, g2, by rw [List.size_toArray, ← va.length, ← rs.length], by rw [List.size_toArray, ← va2.length, ← rs2.length, hl]⟩
        have fin : ∀ s', (AftD X pins σ r H st s' ∧ eqDs f (xs.drop xs.length) (ys.drop xs.length) = some b) → b = true := fun s' ⟨_, e⟩ => by
          rw [List.drop_length] at e
          cases e
          rfl
        refine ⟨p, q, rfl, rfl, ?_, ?_⟩
        · exact SmQ.rcLEq hu _ _ J (fun s' q => ⟨by rw [fin s' q], q.1⟩) (fun i s' q => ⟨by rw [q.2], q.1⟩) ⟨.here I m, h⟩
        · exact SmQ.rcLNe hu _ _ J (fun s' q => ⟨by rw [fin s' q]; rfl, q.1⟩) (fun i s' q => ⟨by rw [q.2]; rfl, q.1⟩) ⟨.here I m, h⟩
      · cases h
    · cases h
  · cases h
/-- in a sequence: the same thing is equal to itself -/
theorem eqB_of {A : Around} {p q : Addr} {b : Bool} {x y : IV} (I : Inv X pins σ H s) (m : Mt X.K H r st) (rx : RV X.K H r x (.ref p)) (ry : RV X.K H r y (.ref q)) (sm : Sim x y → b = true) (h : wpAny (model X.prog X.w) A (richCompare .Eq (.ref p) (.ref q)) (fun z s' => z = .bool b ∧ AftD X pins σ r H st s') X.xe s) :
    wpAny (model X.prog X.w) A (eqBool (.ref p) (.ref q)) (fun z s' => z = b ∧ AftD X pins σ r H st s') X.xe s := by
  by_cases e : p = q
  · subst e
    rw [sm (RV.sim I m rx ry)]
    exact SeqAt.EqAt.same (A := A) (s := s) (.ref p) X.prog X.w X.xe _ ⟨rfl, .here I m⟩
  · exact GQ.eqBool_refG e (wpAny_mono h (fun z s' q => ⟨b, q.1, rfl, q.2⟩) fun _ _ x => x)
theorem relV_ref {v : V} {p : Addr} (h : RelV v (.ref p)) : v = .ref p := by cases v <;> first | (cases h; done) | (cases h; rfl) | (obtain ⟨_, z⟩ := h; cases z)
theorem eqD_at (F : EqF X.prog X.w X.K X.mg X.base k alts) : ∀ (n : Nat) {A : Around}, SubD X k n A → A.units + n + 64 < cLine → ItmD X pins σ st A (eqD alts st n)
  | 0, A, _, _, _, _, _, _, _, _, _, _, _, _, _, _, h, _, _, _, _ => by cases h
  | n + 1, A, sb, hu, s, r, H, x, y, b, v, w, u1, u2, I, m, h, rx, ry, q1, q2 => by
    unfold eqD at h
    cases k1 : eqI st (n + 1) x y with
    | some c =>
      rw [k1] at h
      cases h
      have E := eqI_at I m (n + 1) A (by omega) x y b v w u1 u2 k1 rx ry q1 q2
      exact E.eq X.prog X.w X.xe _ ⟨rfl, .here I m⟩
    | none =>
      rw [k1] at h
      dsimp only at h
      cases k2 : eqO alts x y with
      | some c =>
        rw [k2] at h
        cases h
        obtain ⟨p, q, rfl, rfl, e⟩ := own_at F sb I m k2 rx ry q1 q2
        cases relV_ref q1
        cases relV_ref q2
        exact eqB_of I m rx ry (fun s => eqO_sim s k2) e
      | none =>
        rw [k2] at h
        dsimp only at h
        obtain ⟨p, q, rfl, rfl, e, _⟩ := seq_at2 (by omega) (eqD_at F n sb.in1 (by show A.units + 1 + n + 64 < cLine; omega)) I m h rx ry q1 q2
        cases relV_ref q1
        cases relV_ref q2
        exact eqB_of I m rx ry (fun s => seqD_sim (eqD_sim n) s h) e
end
/-- x == y, x != y: data with frozen instances in it -/
def oEqD (alts : Alts) : O2 := fun x y st => match eqI st 40 x y with
  | some b => some (.bl b, st)
  | none => (seqD st (eqD alts st 8) x y).map fun b => (.bl b, st)
def oNeD (alts : Alts) : O2 := fun x y st => match eqI st 40 x y with
  | some b => some (.bl (!b), st)
  | none => (seqD st (eqD alts st 8) x y).map fun b => (.bl (!b), st)
section
variable {X : Cx} {k : Nat} {alts : Alts}
theorem or_eqD (hu : X.A.units + 128 < cLine) (F : EqF X.prog X.w X.K X.mg X.base k alts) (hr : Room (k + 9) X.A) (hgd : X.A.guards = some []) : OpR X (compareOp .Eq) (rM2 X.K (oEqD alts)) := by
  intro pins s σ H x' y' v u Q I rx ry ⟨r, x, y, st, m, hx, hy, h⟩
  unfold oEqD at h
  cases k1 : eqI st 40 x y with
  | some b =>
    rw [k1] at h
    exact or_eq (by omega) pins s σ H x' y' v u Q I rx ry ⟨r, x, y, st, m, hx, hy, by unfold oEq; rw [k1]; exact h⟩
  | none =>
    rw [k1] at h
    dsimp only at h
    cases k2 : seqD st (eqD alts st 8) x y with
    | none => rw [k2] at h; exact h.elim
    | some b =>
      rw [k2] at h
      obtain ⟨p, q, rfl, rfl, e, _⟩ := seq_at2 (A := X.A) (by omega) (eqD_at F 8 (A := X.A.in1) ⟨Room.in1 hr, rfl, hgd⟩ (by show X.A.units + 1 + 8 + 64 < cLine; omega)) I m k2 hx hy rx ry
      show wpAny (model X.prog X.w) X.A (richCompare .Eq (.ref p) (.ref q)) (EP X pins σ Q) X.xe s
      refine wpAny_mono e (fun z s' ⟨ez, r', H', I', x2, m2⟩ => ?_) fun _ _ e => e
      subst ez
      exact ⟨.bl b, H', I', rfl, h r' H' _ x2 m2 (.bl b)⟩
theorem or_neD (hu : X.A.units + 128 < cLine) (F : EqF X.prog X.w X.K X.mg X.base k alts) (hr : Room (k + 9) X.A) (hgd : X.A.guards = some []) : OpR X (compareOp .NotEq) (rM2 X.K (oNeD alts)) := by
  intro pins s σ H x' y' v u Q I rx ry ⟨r, x, y, st, m, hx, hy, h⟩
  unfold oNeD at h
  cases k1 : eqI st 40 x y with
  | some b =>
    rw [k1] at h
    exact or_ne (by omega) pins s σ H x' y' v u Q I rx ry ⟨r, x, y, st, m, hx, hy, by unfold oNe; rw [k1]; exact h⟩
  | none =>
    rw [k1] at h
    dsimp only at h
    cases k2 : seqD st (eqD alts st 8) x y with
    | none => rw [k2] at h; exact h.elim
    | some b =>
      rw [k2] at h
      obtain ⟨p, q, rfl, rfl, _, e⟩ := seq_at2 (A := X.A) (by omega) (eqD_at F 8 (A := X.A.in1) ⟨Room.in1 hr, rfl, hgd⟩ (by show X.A.units + 1 + 8 + 64 < cLine; omega)) I m k2 hx hy rx ry
      show wpAny (model X.prog X.w) X.A (richCompare .NotEq (.ref p) (.ref q)) (EP X pins σ Q) X.xe s
      refine wpAny_mono e (fun z s' ⟨ez, r', H', I', x2, m2⟩ => ?_) fun _ _ e => e
      subst ez
      exact ⟨.bl (!b), H', I', rfl, h r' H' _ x2 m2 (.bl (!b))⟩
end
end Sm

set_option Elab.async false
set_option linter.all false
set_option maxRecDepth 100000
set_option maxHeartbeats 4000000
namespace Sm
open L2 PySem PySem.Spec
/-! ### own __getitem__ and __contains__ -/
section
variable {X : Cx} {W : WX} {pos : Pos} {pins : List (Addr × Obj)} {σ : L2.St} {H H' : Hp} {s s' : Shared} {r r' : List Addr} {st : Hs} {k : Nat} {a b : Expr} {ma mb : ME}
/-- a def called somewhere below the running body -/
theorem call_at {A : Around} {g : Addr} {fd : FuncData} {ps : List Str} {f : List IV → M IV} (G : FnG X.prog X.w X.K X.mg X.base k g fd ps f) (hb : Binds X.K fd ps []) (hr : Room k A) (hfr : A.frames = X.A.frames) (hgd : A.guards = some []) (I : Inv X pins σ H s) (m : Mt X.K H r st)
    {xs : List IV} {vs : List V} {us : List Value} (rs : RVs X.K H r xs vs) (rv : Vals vs us) (hl : xs.length = ps.length) {z : IV} {st' : Hs} (e : runC f xs st = .ok z st') :
    wpAny (model X.prog X.w) A (call (.ref g) us) (fun u s' => ∃ r' H' v, Inv X pins σ H' s' ∧ Xt r H r' H' ∧ Mt X.K H' r' st' ∧ RV X.K H' r' z v ∧ RelV v u) X.xe s := by
  have hsp : spM X.K X.mg f vs H (fun v H2 => ∃ r2, Xt r H r2 H2 ∧ Mt X.K H2 r2 st' ∧ RV X.K H2 r2 z v) (WE W0 σ) := aft_sp rs m (by
    rw [e]
    exact fun r2 H2 v x2 m2 rz => ⟨r2, x2, m2, rz⟩)
  have e0 : Env0 X.prog X.w X.K X.mg X.base A X.stack s H := by
    have e := I.env0
    exact ⟨by rw [hfr]; exact e.frames, e.mod, e.bs, e.bsz, e.funs, e.frf, e.hok, e.bare⟩
  have bt := hb s us I.kIn (by rw [List.append_nil, ← rv.length, ← rs.length]; exact hl)
  rw [List.append_nil] at bt
  refine wpAny_call (codeAny_mono (G A X.stack s H ⟨us, []⟩ us vs _ (WE W0 σ) hr hgd e0 bt rv (by rw [← rs.length]; exact hl) hsp) fun res s' q => ?_)
  match res, q with
  | .error u, q => exact pass_0 σ pins H s u s' I q
  | .ok (.ret u), q =>
    obtain ⟨v, H2, I2, rz, r2, x2, m2, r3⟩ := I.after q
    exact ⟨r2, H2, v, I2, x2, m2, r3, rz⟩
  | .ok .next, q => exact q.elim
  | .ok .brk, q => exact q.elim
  | .ok .cont, q => exact q.elim
def oIxO (alts : Alts) : O2 := fun x y st => match tyOf st x with
  | some (.own c) => (match alts.lookup c with
    | some f => (match runC f [x, y] st with
      | .ok z st' => some (z, st')
      | _ => none)
    | none => none)
  | _ => none
def oInO (neg : Bool) (alts : Alts) : O2 := fun x y st => match tyOf st y with
  | some (.own c) => (match alts.lookup c with
    | some f => (match runC f [y, x] st with
      | .ok (.bl b) st' => some (.bl (b != neg), st')
      | _ => none)
    | none => none)
  | _ => none
/-- what is asked of the classes -/
structure SubF (P : Program) (w : World) (K : PySem.W.Frag) (mg : Str → Option Value) (base : Heap) (k : Nat) (nm : Str) (alts : Alts) : Prop where
  cal : ∀ c f, alts.lookup c = some f → CalM P w K mg base k c nm 2 f
  fn : ∀ c f g, alts.lookup c = some f → PySem.W.findIn K (.ref (He.ga K c)) nm = some (some (.ref g)) → PySem.W.fnIn K g = true
theorem xr_ixO {alts : Alts} (F : SubF X.prog X.w X.K X.mg X.base k "__getitem__" alts) (hr : Room (k + 1) X.A) (hgd : X.A.guards = some []) : ∀ (value slice : Expr) (hsl : ∀ p i, subscripted slice true (.ref p) i = runValue (.builtin "lifetime.subscript" ⟨[.ref p, i], []⟩)) (pins : List (Addr × Obj)) (s : Shared) (σ : L2.St) (H : Hp) (x' y' : V) (v u : Value) (Q : VK), Inv X pins σ H s → RelV x' v → RelV y' u → rM2 X.K (oIxO alts) x' y' H Q → wpAny (model X.prog X.w) X.A (PyProof.Rows.subscriptTail value slice v u) (EP X pins σ Q) X.xe s := by
  intro value slice hsl pins s σ H x' y' v u Q I rx ry ⟨r, x, y, st, m, hx, hy, h⟩
  cases q : oIxO alts x y st with
  | none => rw [q] at h; exact h.elim
  | some z =>
    rw [q] at h
    unfold oIxO at q
    split at q
    · rename_i c e1
      split at q
      · rename_i f hf
        split at q
        · rename_i z1 st' e2
          cases q
          obtain ⟨ns, xs, ei⟩ := tyOf_own e1
          obtain ⟨p, dx, fs, rfl, hp, _⟩ := ins_at m ei hx
          cases (show v = Value.ref p from rx)
          obtain ⟨g, fd, ps, G, hps, cl, mt, hb⟩ := F.cal c f hf
          obtain ⟨mA, J, _⟩ := ins_get I.hok hp
          obtain ⟨od, J, _⟩ := J.look
          obtain ⟨mm, hF⟩ := I.fr
          refine PySem.W.sub_K hF I.ok.mod.kin J mt.at_ (F.fn c f g hf mt.at_) mt.fn ?_ (hsl p u)
          refine wpAny_mono (call_at (A := X.A.in1) G hb (Room.in1 hr) rfl hgd I m (.cons hx (.cons hy .nil)) (.cons rfl (.cons ry .nil)) hps.symm e2) (fun w s' ⟨r', H', v, I', x2, m2, rz, rw1⟩ => ?_) fun _ _ e => e
          exact ⟨v, H', I', rw1, h r' H' v x2 m2 rz⟩
        · cases q
      · cases q
    · cases q
theorem pem_ixO {alts : Alts} (F : SubF X.prog X.w X.K X.mg X.base k "__getitem__" alts) (hr : Room (k + 1) X.A) (hgd : X.A.guards = some []) (ha : PEm X W a ma) (hb : PEm X W b mb) (hsl : ∀ p i, subscripted b true (.ref p) i = runValue (.builtin "lifetime.subscript" ⟨[.ref p, i], []⟩) := by intro _ _; with_unfolding_all rfl) : PEm X W (.Subscript a b pos) (mBin (oIxO alts) ma mb) :=
  ⟨fun pins s σ H Q I ⟨r, env, st, he, hm, h⟩ => PyProof.Rows.Subscript_ (thn (ha.run pins s σ H _ I ⟨r, env, st, he, hm, (Aft.split (rel := rV X.K) h).imp fun v H1 ⟨x, r1, st1, x1, m1, rv, h1⟩ =>
    (⟨r1, env, st1, he.mono x1 hm, m1, (Aft.split (rel := rV X.K) h1).imp fun v2 H2 ⟨y, r2, st2, x2, m2, rv2, h2⟩ => rM2_of m2 (rv.mono x2 m1) rv2 h2⟩ : tE X W mb σ H1 fun v2 H2 => rM2 X.K (oIxO alts) v v2 H2 Q)⟩) fun u s1 ⟨x, H1, I1, rx, q1⟩ =>
      thn (hb.run pins s1 σ H1 _ I1 q1) fun w s2 ⟨y, H2, I2, ry, q2⟩ => xr_ixO F hr hgd a b hsl pins s2 σ H2 x y u w Q I2 rx ry q2)⟩
theorem or_inO {alts : Alts} (F : SubF X.prog X.w X.K X.mg X.base k "__contains__" alts) (hr : Room k X.A) (hgd : X.A.guards = some []) : OpR X (compareOp .In) (rM2 X.K (oInO false alts)) := by
  intro pins s σ H x' y' v u Q I rx ry ⟨r, x, y, st, m, hx, hy, h⟩
  cases q : oInO false alts x y st with
  | none => rw [q] at h; exact h.elim
  | some z =>
    rw [q] at h
    unfold oInO at q
    split at q
    · rename_i c e1
      split at q
      · rename_i f hf
        split at q
        · rename_i b1 st' e2
          cases q
          obtain ⟨ns, xs, ei⟩ := tyOf_own e1
          obtain ⟨p, dx, fs, rfl, hp, _⟩ := ins_at m ei hy
          cases (show u = Value.ref p from ry)
          obtain ⟨g, fd, ps, G, hps, cl, mt, hb⟩ := F.cal c f hf
          obtain ⟨mA, J, _⟩ := ins_get I.hok hp
          obtain ⟨od, J, _⟩ := J.look
          obtain ⟨mm, hF⟩ := I.fr
          refine PySem.W.in_K hF I.ok.mod.kin J mt.at_ mt.fn ?_
          refine wpAny_mono (call_at (A := X.A) G hb hr rfl hgd I m (.cons hy (.cons hx .nil)) (.cons rfl (.cons rx .nil)) hps.symm e2) (fun w s' ⟨r', H', v, I', x2, m2, rz, rw1⟩ => ?_) fun _ _ e => e
          have rz : RV X.K H' r' (.bl b1) v := rz
          cases rz
          cases (show w = Value.bool b1 from rw1)
          refine wpAny_truthy_bool ⟨.bl b1, H', I', rfl, ?_⟩
          have := h r' H' (.bl (b1 != false)) x2 m2 (.bl _)
          rwa [Bool.bne_false] at this
        · cases q
      · cases q
    · cases q
theorem or_notInO {alts : Alts} (F : SubF X.prog X.w X.K X.mg X.base k "__contains__" alts) (hr : Room k X.A) (hgd : X.A.guards = some []) : OpR X (compareOp .NotIn) (rM2 X.K (oInO true alts)) := by
  intro pins s σ H x' y' v u Q I rx ry ⟨r, x, y, st, m, hx, hy, h⟩
  cases q : oInO true alts x y st with
  | none => rw [q] at h; exact h.elim
  | some z =>
    rw [q] at h
    unfold oInO at q
    split at q
    · rename_i c e1
      split at q
      · rename_i f hf
        split at q
        · rename_i b1 st' e2
          cases q
          obtain ⟨ns, xs, ei⟩ := tyOf_own e1
          obtain ⟨p, dx, fs, rfl, hp, _⟩ := ins_at m ei hy
          cases (show u = Value.ref p from ry)
          obtain ⟨g, fd, ps, G, hps, cl, mt, hb⟩ := F.cal c f hf
          obtain ⟨mA, J, _⟩ := ins_get I.hok hp
          obtain ⟨od, J, _⟩ := J.look
          obtain ⟨mm, hF⟩ := I.fr
          refine PySem.W.notIn_K hF I.ok.mod.kin J mt.at_ mt.fn ?_
          refine wpAny_mono (call_at (A := X.A) G hb hr rfl hgd I m (.cons hy (.cons hx .nil)) (.cons rfl (.cons rx .nil)) hps.symm e2) (fun w s' ⟨r', H', v, I', x2, m2, rz, rw1⟩ => ?_) fun _ _ e => e
          have rz : RV X.K H' r' (.bl b1) v := rz
          cases rz
          cases (show w = Value.bool b1 from rw1)
          refine wpAny_truthy_bool ⟨.bl (!b1), H', I', rfl, ?_⟩
          have := h r' H' (.bl (b1 != true)) x2 m2 (.bl _)
          rwa [Bool.bne_true] at this
        · cases q
      · cases q
    · cases q
end
end Sm

set_option Elab.async false
set_option linter.all false
set_option maxRecDepth 100000
set_option maxHeartbeats 4000000
namespace Sm
open L2 PySem PySem.Spec PyProof.Rows StX
/-! ### a def with a star parameter behind all others; making by it -/
/-- what such a def binds: n values, the keywords' ones, the rest as a new tuple -/
structure BnS (K : PySem.W.Frag) (fd : FuncData) (ps : List Str) (n : Nat) (ks : List Str) (g : List Value → List Value → List Value) (gV : List V → List V → List V) : Prop where
  to : ∀ (M : Model) (A : Around) (E : Value → Shared → Prop) (Q : List (Str × Value) → Shared → Prop) (s : Shared) (us rest ws : List Value), K.In s.heap → us.length = n → ws.length = ks.length → wpAny M A (newTuple rest >>= fun t => pure (ps.zip (g us ws ++ [t]))) Q E s → wpAny M A (bindArgs fd ⟨us ++ rest, ks.zip ws⟩) Q E s
  rel : ∀ {vs : List V} {us : List Value} {zs : List V} {ws : List Value}, Vals vs us → Vals zs ws → Vals (gV vs zs) (g us ws)
  len : ∀ (us ws : List Value), us.length = n → ws.length = ks.length → (g us ws).length + 1 = ps.length
def FnS (P : Program) (w : World) (K : PySem.W.Frag) (mg : Str → Option Value) (base : Heap) (k : Nat) (f : Addr) (n : Nat) (ks : List Str) (gV : List V → List V → List V) (mf : List IV → M IV) : Prop :=
  ∀ (A : Around) (fr : List PySem.Env) (s : Shared) (H : Hp) (us rest ws : List Value) (vs rs zs : List V) (Q : VK) (E : XK), Room k A → A.guards = some [] → Env0 P w K mg base A fr s H → Vals vs us → Vals rs rest → Vals zs ws → us.length = n → ws.length = ks.length → rest.length ≤ sizeLine →
    (∀ p, H p = none → spM K mg mf (gV vs zs ++ [V.ref p]) (upd H p (.tup rs)) Q E) → codeAny (model P w) A (.call (.ref f) ⟨us ++ rest, ks.zip ws⟩) (CR (L2.CX P w) fr P w H s Q E) s
section
variable {P : Program} {w : World} {K : PySem.W.Frag} {mg : Str → Option Value} {base : Heap} {k : Nat}
theorem FnS.mono {j : Nat} {f : Addr} {n : Nat} {ks : List Str} {gV : List V → List V → List V} {mf : List IV → M IV} (F : FnS P w K mg base j f n ks gV mf) (h : j ≤ k) : FnS P w K mg base k f n ks gV mf := fun A fr s H us rest ws vs rs zs Q E hr => F A fr s H us rest ws vs rs zs Q E (hr.mono h)
theorem fns_of {y x : Str} {t : Stmt} {f : Addr} {fd : FuncData} {N ps : List Str} {b : MS} {n : Nat} {ks : List Str} {g : List Value → List Value → List Value} {gV : List V → List V → List V} (F : Fun K y x t f fd) (S : FnScope N ps (defScope t)) (B : BnS K fd ps n ks g gV)
    (hb : ∀ (cd : Value) (A : Around) (fr : List PySem.Env) (s : Shared) (H : Hp) (E : XK), Bd k (bX P w K mg base N x t f cd A fr s H E) (fun cls d _ H' => E cls d H') → PSsm (bX P w K mg base N x t f cd A fr s H E) (fun cls d _ H' => E cls d H') (defBody t) b) :
    FnS P w K mg base (k + 1) f n ks gV (mDef N.length b) := by
  obtain ⟨oc, od, kV, doc, pm, an, cd, ct, osl, rfl, lk, hcd⟩ := F.ex
  intro A fr s H us rest ws vs rs zs Q E room gd e0 rv rr rz l1 l2 hz hsp
  have hn : H s.heap.objs.size = Option.none := e0.hok.fresh (Nat.le_refl _)
  have hK : K.In s.heap := e0.mod.kin.keeps fun c o e => (e0.bs c o e).1
  have rg := B.rel rv rz
  refine run_bnd lk hcd S room e0 (G := fun xs H2 => ∃ p, H p = none ∧ xs = gV vs zs ++ [V.ref p] ∧ H2 = upd H p (.tup rs)) (fun A' Ex Q' h => ?_) fun s2 H2 xs ⟨p, hp, ex, eH⟩ hr' => ?_
  · refine B.to _ _ _ _ _ us rest ws hK l1 l2 (wpAny_bind (wpAny_newTuple (wpAny_pure ?_) hz))
    have new : ObjOk P w (upd H s.heap.objs.size (.tup rs)) (s.heap.push ({ cls := .type "tuple", data := .seq rest.toArray } : Obj)) s.heap.objs.size (.tup rs) := ⟨by rw [rr.length]; exact hz, rest, rr, ⟨_, Heap.get?_push_size _ rfl, rfl, _, rfl⟩⟩
    have un := un_laid (fs := frs fr) (s := s) (o := ({ cls := .type "tuple", data := .seq rest.toArray } : Obj)) (u := .tup rs) hn
    exact h _ _ (gV vs zs ++ [V.ref s.heap.objs.size]) _ (env0_laid e0 new) un rfl (fun e s' => cxUp fr s H _ _ E e s' un (fun b o q => Heap.get?_push_of_some _ q) rfl) (rg.append (.cons rfl .nil))
      (by rw [List.length_append, rg.length]; exact B.len us ws l1 l2) ⟨_, hn, rfl, rfl⟩
  · subst ex eH
    obtain ⟨r, xs, st, rs', m, h⟩ := hsp p hp
    have tk : L2.Takes (bX P w K mg base N x t f cd A fr s2 (upd H p (.tup rs)) E) (fun cls d _ H' => E cls d H') := L2.takes_of rfl rfl rfl (E := E) (E₁ := fun e' s'' => L2.CX P w fr (upd H p (.tup rs)) s2 E e' s'') rfl
    have bd : Bd k (bX P w K mg base N x t f cd A fr s2 (upd H p (.tup rs)) E) (fun cls d _ H' => E cls d H') := ⟨hr', gd, tk, L2.passes_of (K := fun e s'' => L2.CX P w fr (upd H p (.tup rs)) s2 E e s'') (E₁ := fun e' s'' => L2.CX P w fr (upd H p (.tup rs)) s2 E e' s'') rfl⟩
    refine ⟨_, hb cd A fr s2 (upd H p (.tup rs)) E bd, r, _, st, renv_start rs', m, ?_⟩
    unfold mDef at h
    cases q : b (xs.map some ++ List.replicate (N.length - xs.length) none) st with
    | no => rw [q] at h; exact h
    | nx e2 s2 => rw [q] at h; exact fun r' H' σ' x2 m2 _ => h r' H' .non x2 m2 .non
    | rt v s2 => rw [q] at h; exact h
    | bk e2 s2 => rw [q] at h; exact h.elim
    | ct e2 s2 => rw [q] at h; exact h.elim
    | ex e e2 s2 => rw [q] at h; exact fun r' H' σ' cls d x2 m2 _ z => h r' H' cls d x2 m2 z
/-- a class that is made so -/
def CalS (P : Program) (w : World) (K : PySem.W.Frag) (mg : Str → Option Value) (base : Heap) (k : Nat) (c : Str) (n : Nat) (ks : List Str) (gI : List IV → List IV → List IV) (mf : List IV → M IV) : Prop :=
  ∃ f gV, FnS P w K mg base k f (n + 1) ks gV mf ∧ Mk K (He.ga K c) f ∧ mg c = some (.ref (He.ga K c)) ∧
    (∀ (H : Hp) (r : List Addr) (v : V) (xs ys : List IV) (vs zs : List V), RVs K H r xs vs → RVs K H r ys zs → xs.length = n → ys.length = ks.length → ∃ us, gV (v :: vs) zs = v :: us ∧ RVs K H r (gI xs ys) us)
theorem CalS.mono {j : Nat} {c : Str} {n : Nat} {ks : List Str} {gI : List IV → List IV → List IV} {mf : List IV → M IV} (C : CalS P w K mg base j c n ks gI mf) (h : j ≤ k) : CalS P w K mg base k c n ks gI mf := by
  obtain ⟨f, gV, F, q⟩ := C
  exact ⟨f, gV, F.mono h, q⟩
end
/-- the items of a star argument, then the others -/
def maS (e : ME) (es : MA) : MA := fun env => bnd (e env) fun x => bnd (fun st => match seqOf st x with
  | some xs => Rs.ok xs st
  | none => .no) fun xs => bnd (es env) fun ys => ret (xs ++ ys)
def goMkS (c : Str) (n : Nat) (f : List IV → M IV) (gI : List IV → List IV → List IV) (xs ys : List IV) : M IV := if n ≤ xs.length ∧ xs.length ≤ big then runMk c f (gI (xs.take n) ys ++ [.tup (xs.drop n)]) else stuck
def mMkS (c : Str) (n : Nat) (f : List IV → M IV) (gI : List IV → List IV → List IV) (es ks : MA) : ME := fun env => bnd (es env) fun xs => bnd (ks env) fun ys => goMkS c n f gI xs ys
/-- the class is a variable's value -/
def mClS (i : Nat) (c : Str) (n : Nat) (f : List IV → M IV) (gI : List IV → List IV → List IV) (es ks : MA) : ME := fun env => bnd (mVar i env) fun x => match x with
  | .cls d => if d = c then mMkS c n f gI es ks env else stuck
  | _ => stuck
section
variable {X : Cx} {W : WX} {pos p : Pos} {k n : Nat} {c : Str} {ks : List Str} {gI : List IV → List IV → List IV} {mf : List IV → M IV} {e : Expr} {es : List Expr} {kws : List Keyword} {ms mk : MA} {m1 : ME}
theorem pam_star {sp : Pos} (he : PEm X W e m1) (hr : PAm X W es ms) (hs : starEach (.Starred e sp :: es) X.env = (true, eval e X.env) :: starEach es X.env := by rfl) : PAm X W (.Starred e sp :: es) (maS m1 ms) :=
  PA.weak (pa_star he hr hs) fun σ H Q ⟨r, env, st, he, hm, h⟩ => ⟨r, env, st, he, hm, (Aft.split (rel := rV X.K) h).imp fun v H1 ⟨x, r1, st1, x1, m1, rv, h1⟩ => by
    unfold bnd at h1
    cases k : seqOf st1 x with
    | none => simp only [k] at h1; exact h1.elim
    | some xs =>
      simp only [k] at h1
      obtain ⟨p, vs, rfl, hq, rs⟩ := seq_at m1 k rv
      exact ⟨p, vs, rfl, hq.symm, r1, env, st1, he.mono x1 hm, m1, (Aft.split (rel := rVs X.K) h1).imp fun ws H2 ⟨ys, r2, st2, x2, m2, rs2, h2⟩ => h2 r2 H2 _ Xt.refl m2 ((rs.mono x2 m1).append rs2)⟩⟩
theorem vals_cut {vs : List V} {us : List Value} (n : Nat) (h : Vals vs us) : Vals (vs.take n) (us.take n) ∧ Vals (vs.drop n) (us.drop n) := ⟨h.take n, h.drop n⟩
theorem run_mkS {pins : List (Addr × Obj)} {σ : L2.St} {H : Hp} {s : Shared} {Q : VK} {us ws : List Value} {vs zs : List V} {r : List Addr} {xs ys : List IV} {st : Hs} (C : CalS X.prog X.w X.K X.mg X.base k c n ks gI mf) (hr : Room (k + 1) X.A) (hgd : X.A.guards = some []) (hx : PassesAt (L2.CX X.prog X.w) X σ (WE W σ))
    (I : Inv X pins σ H s) (rv : Vals vs us) (rz : Vals zs ws) (m : Mt X.K H r st) (rx : RVs X.K H r xs vs) (ry : RVs X.K H r ys zs) (l2 : ys.length = ks.length) (h : Aft X W σ (rV X.K) r H (goMkS c n mf gI xs ys st) Q) :
    wpAny (model X.prog X.w) X.A (call (.ref (He.ga X.K c)) us (ks.zip ws)) (EP X pins σ Q) X.xe s := by
  unfold goMkS at h
  by_cases hn : n ≤ xs.length ∧ xs.length ≤ big
  · rw [if_pos hn] at h
    obtain ⟨f, gV, F, M, _, hg⟩ := C
    have lx : (xs.take n).length = n := by rw [List.length_take]; omega
    obtain ⟨vs2, e2, rs2⟩ := hg H r (V.ref (s.heap.objs.size + 1)) (xs.take n) ys (vs.take n) zs (rx.take n) ry lx l2
    have hX : H (s.heap.objs.size + 1) = none := I.hok.fresh (Nat.le_succ _)
    have hD : H s.heap.objs.size = none := I.hok.fresh (Nat.le_refl _)
    have ne : s.heap.objs.size ≠ s.heap.objs.size + 1 := Nat.ne_of_lt (Nat.lt_succ_self _)
    have I2 := Inv.made (C := He.ga X.K c) I
    obtain ⟨v1, v2⟩ := vals_cut n rv
    have rb : Vals (V.ref (s.heap.objs.size + 1) :: vs.take n) (Value.ref (s.heap.objs.size + 1) :: us.take n) := .cons rfl v1
    have hsp : ∀ q, (upd (upd H s.heap.objs.size (.own (s.heap.objs.size + 1))) (s.heap.objs.size + 1) (.ins (He.ga X.K c) s.heap.objs.size [])) q = none →
        spM X.K X.mg mf (gV (V.ref (s.heap.objs.size + 1) :: vs.take n) zs ++ [V.ref q]) (upd (upd (upd H s.heap.objs.size (.own (s.heap.objs.size + 1))) (s.heap.objs.size + 1) (.ins (He.ga X.K c) s.heap.objs.size [])) q (.tup (vs.drop n))) (fun v H2 => v = .non ∧ Q (.ref (s.heap.objs.size + 1)) H2) (WE W σ) := fun q hq => by
      have q1 : q ≠ s.heap.objs.size + 1 := fun z => by rw [z, upd_same] at hq; cases hq
      have q2 : q ≠ s.heap.objs.size := fun z => by rw [z, upd_ne ne, upd_same] at hq; cases hq
      have hq0 : H q = none := by rw [upd_ne q1, upd_ne q2] at hq; exact hq
      have ec : upd (upd (upd H s.heap.objs.size (.own (s.heap.objs.size + 1))) (s.heap.objs.size + 1) (.ins (He.ga X.K c) s.heap.objs.size [])) q (.tup (vs.drop n)) = upd (upd (upd H q (.tup (vs.drop n))) s.heap.objs.size (.own (s.heap.objs.size + 1))) (s.heap.objs.size + 1) (.ins (He.ga X.K c) s.heap.objs.size []) := by
        funext b
        unfold upd
        by_cases b1 : b = q
        · rw [b1, if_pos rfl, if_neg q1, if_neg q2, if_pos rfl]
        · rw [if_neg b1, if_neg b1]
      have xa := Xt.aside (r := r) (o := .tup (vs.drop n)) hq0
      have rs3 : RVs X.K (upd H q (.tup (vs.drop n))) r (gI (xs.take n) ys ++ [.tup (xs.drop n)]) (vs2 ++ [V.ref q]) := (rs2.mono xa m).append (.cons (.tup (.inl (.inl upd_same)) ((rx.drop n).mono xa m)) .nil)
      have z := mk_sp (c := c) rs3 (m.aside hq0) (h.later xa) (s.heap.objs.size + 1) s.heap.objs.size (by rw [upd_ne q1.symm]; exact hX) (by rw [upd_ne q2.symm]; exact hD) ne
      rw [e2, ec]
      exact z
    have n1 : (Value.ref (s.heap.objs.size + 1) :: us.take n).length = n + 1 := by
      rw [List.length_cons, List.length_take, ← rv.length, ← rx.length]
      omega
    have n2 : ws.length = ks.length := by rw [← rz.length, ← ry.length, l2]
    have n3 : (us.drop n).length ≤ sizeLine := by
      rw [List.length_drop, ← rv.length, ← rx.length, ← big_eq]
      omega
    have eu : Value.ref (s.heap.objs.size + 1) :: us = (Value.ref (s.heap.objs.size + 1) :: us.take n) ++ us.drop n := by rw [List.cons_append, List.take_append_drop]
    refine wpAny_call (make_map (f := f) I.kIn M.makes M.init (beq_iff_eq.mp M.fn) ?_)
    rw [eu]
    refine codeAny_mono (F _ X.stack _ _ _ (us.drop n) ws _ (vs.drop n) zs _ _ (hr.make _ us (ks.zip ws)) (make_guards.trans hgd) (I2.env0.make _ us (ks.zip ws)) rb v2 rz n1 n2 n3 hsp) fun res s' z => ?_
    match res, z with
    | .error u, z => exact hx pins _ _ u s' I2 z
    | .ok (.ret u), z =>
      obtain ⟨v, H', I3, rv3, ev, q3⟩ := I2.after z
      subst ev
      exact ⟨rv3, ⟨V.ref (s.heap.objs.size + 1), H', I3, rfl, q3⟩⟩
    | .ok .next, z => exact z.elim
    | .ok .brk, z => exact z.elim
    | .ok .cont, z => exact z.elim
  · rw [if_neg hn] at h; exact h.elim
end
end Sm

set_option Elab.async false
set_option linter.all false
set_option maxRecDepth 100000
set_option maxHeartbeats 4000000
namespace Sm
open L2 PySem PySem.Spec PyProof.Rows StX ClX
/-! ### calls of classes with star arguments; classmethods -/
section
variable {M : Model} {A : Around} {E : Value → Shared → Prop} {s : Shared}
theorem star_kw {f : Value} {first : List Value} {pos : Pos} {Q : Value → Shared → Prop} {P : Heap → Prop} {args : List (Bool × Sem Value)} {kws : List (Option Str × Sem Value)} (hst : args.any (·.1) = true)
    (hk : ∀ h, P h → ∃ k, (k = Keeper.frame ∨ k = Keeper.machine ∨ k = Keeper.boundFrame) ∧ PySem.W.Looks M h (keeperOf f) k)
    (h : wpAny M A (evalArgs f true args kws) (fun a s₁ => P s₁.heap ∧ wpAny M A (call f (first ++ a.pos) a.kw) Q E s₁) E s) : wpAny M A (callWith pos f first args kws) Q E s := by
  unfold callWith
  refine wpAny_bind (wpAny_holding (wpAny_mono h (fun a s₁ ha => wpAny_bind (wpAny_standAt ?_)) fun _ _ x => x))
  obtain ⟨kk, hk', L⟩ := hk _ ha.1
  simp only [hst, Bool.true_or]
  refine wpAny_bind (L.here ?_)
  have tail : ∀ {t : Sem Value}, wpAny M A t Q E s₁ → wpAny M A (t >>= fun v => holding [v] point >>= fun _ => pure v) Q E s₁ := fun ht =>
    wpAny_bind (wpAny_mono ht (fun v s₂ hv => wpAny_bind (wpAny_holding (wpAny_point (wpAny_pure hv)))) fun _ _ x => x)
  have marked : ∀ mk : Value, wpAny M A (callMarked mk f (first ++ a.pos) a.kw) Q E s₁ := fun mk => by unfold callMarked; exact Calls.wpAny_keep ha.2
  rcases hk' with rfl | rfl | rfl <;> dsimp only <;> first | exact tail (marked _) | exact tail (wpAny_operating ha.2)
end
section
variable {X : Cx} {W : WX} {pos p : Pos} {k n : Nat} {c : Str} {ks : List Str} {gI : List IV → List IV → List IV} {mf : List IV → M IV} {e : Expr} {es : List Expr} {kws : List Keyword} {ms mk : MA} {m1 : ME}
theorem mkS_split {σ : L2.St} {H : Hp} {r : List Addr} {env : Sm.Env} {st : Hs} {Q : VK} (l2 : LenA ks.length mk) (re : REnv X.K H r env σ) (hm : Mt X.K H r st) (h : Aft X W σ (rV X.K) r H (mMkS c n mf gI ms mk env st) Q) :
    Aft X W σ (rVs X.K) r H (ms env st) fun vs H1 => tA X W mk σ H1 fun zs H2 => ∃ r2 xs ys st2, Mt X.K H2 r2 st2 ∧ RVs X.K H2 r2 xs vs ∧ RVs X.K H2 r2 ys zs ∧ ys.length = ks.length ∧ Aft X W σ (rV X.K) r2 H2 (goMkS c n mf gI xs ys st2) Q := by
  unfold mMkS bnd at h
  cases q : ms env st with
  | no => rw [q] at h; exact h
  | ex a s2 => rw [q] at h; exact h
  | ok xs s2 =>
    rw [q] at h
    refine fun r1 H1 vs x1 m1 rs => ⟨r1, env, s2, re.mono x1 hm, m1, ?_⟩
    have h := Aft.later h x1
    dsimp only at h
    cases q2 : mk env s2 with
    | no => rw [q2] at h; exact h
    | ex a s3 => rw [q2] at h; exact h
    | ok ys s3 =>
      rw [q2] at h
      exact fun r2 H2 zs x2 m2 rz => ⟨r2, xs, ys, s3, m2, rs.mono x2 m1, rz, l2 _ _ _ _ q2, Aft.later h x2⟩
theorem calS_mk (C : CalS X.prog X.w X.K X.mg X.base k c n ks gI mf) : (∃ f, Mk X.K (He.ga X.K c) f) ∧ X.mg c = some (.ref (He.ga X.K c)) := by
  obtain ⟨f, gV, F, M, mC, _⟩ := C
  exact ⟨⟨f, M⟩, mC⟩
/-- C(e, ..): no star written, no keywords -/
theorem pem_mkS (C : CalS X.prog X.w X.K X.mg X.base k c n [] gI mf) (hr : Room (k + 1) X.A) (hgd : X.A.guards = some []) (hx : ∀ σ, PassesAt (L2.CX X.prog X.w) X σ (WE W σ)) (ha : PAm X W (e :: es) ms) (hg : Gl X c) (hdb : (c == ("__debug__" : Str)) = false := by decide)
    (he : starEach (e :: es) X.env = (false, eval e X.env) :: starEach es X.env := by rfl) (hpl : (backTo pos (starEach es X.env)).any (·.1) = false := by rfl) : PEm X W (.Call (.Name c p) (e :: es) [] pos) (mMkS c n mf gI ms maN) := by
  refine ⟨fun pins s σ H Q I ⟨r, env, st, re, hm, h⟩ => ?_⟩
  obtain ⟨⟨f, M⟩, mC⟩ := calS_mk C
  refine wpAny_Call_Name_kw (ld_glob I hg mC ?_ hdb)
  refine PySem.W.callWith_K (h₀ := X.base) I.ok.mod.kin M.kp (thn (ha.run pos pins s σ H _ I ⟨r, env, st, re, hm, mkS_split (ks := []) len_nil re hm h⟩) fun us s1 ⟨vs, H1, I1, rv, q⟩ => ⟨I1.kIn, ?_⟩) he hpl
  obtain ⟨r1, env1, st1, re1, m1, q⟩ := q
  obtain ⟨r2, xs, ys, st2, m2, rx, ry, e2, h2⟩ := q r1 H1 [] Xt.refl m1 .nil
  exact run_mkS C hr hgd (hx σ) I1 rv .nil m2 rx ry e2 h2
/-- v(e, *l, k = ..), v a variable that holds the class -/
theorem pem_clS {i : Nat} {x : Str} (C : CalS X.prog X.w X.K X.mg X.base k c n ks gI mf) (hr : Room (k + 1) X.A) (hgd : X.A.guards = some []) (hx : ∀ σ, PassesAt (L2.CX X.prog X.w) X σ (WE W σ)) (hv : PEm X W (.Name x p) (mVar i)) (ha : PAm X W (e :: es) ms) (hkw : PKm X W kws mk) (l2 : LenA ks.length mk)
    (hall : (backToKw pos (keywordEach kws X.env)).all (·.1.isSome) = true := by rfl) (hks : (backToKw pos (keywordEach kws X.env)).filterMap (·.1) = ks := by rfl)
    (he : starEach (e :: es) X.env = (false, eval e X.env) :: starEach es X.env := by rfl) (hst : (backTo pos (starEach (e :: es) X.env)).any (·.1) = true := by rfl) :
    PEm X W (.Call (.Name x p) (e :: es) kws pos) (mClS i c n mf gI ms mk) := by
  refine ⟨fun pins s σ H Q I ⟨r, env, st, re, hm, h⟩ => ?_⟩
  obtain ⟨⟨f, M⟩, mC⟩ := calS_mk C
  refine wpAny_Call_Name_kw (thn (hv.run pins s σ H _ I ⟨r, env, st, re, hm, Aft.split (rel := rV X.K) h⟩) fun fv s0 ⟨v, H0, I0, rfv, y, r0, st0, x0, m0, ry0, h0⟩ => ?_)
  cases y with
  | cls d =>
    dsimp only at h0
    by_cases q : d = c
    · rw [if_pos q] at h0
      subst q
      cases ry0 with
      | cls e0 _ _ _ =>
        subst e0
        cases (show fv = Value.ref _ from rfv)
        refine star_kw hst (PySem.W.keeps_K M.kp) (evalArgs_kw2 hall (thn (ha.run pos pins s0 σ H0 _ I0 ⟨r0, env, st0, re.mono x0 hm, m0, mkS_split l2 (re.mono x0 hm) m0 h0⟩) fun us s1 ⟨vs, H1, I1, rv, q⟩ => ?_) he)
        refine thn (hkw.run pos pins s1 σ H1 _ I1 q) fun ws s2 ⟨zs, H2, I2, rz, r2, xs, ys, st2, m2, rx, ry, e2, h2⟩ => ⟨I2.kIn, ?_⟩
        rw [hks]
        exact run_mkS C hr hgd (hx σ) I2 rv rz m2 rx ry e2 h2
    · rw [if_neg q] at h0; exact h0.elim
  | _ => exact h0.elim
/-! C.m(e, .., k = v, ..), m a classmethod -/
def mCm (c : Str) (f : List IV → M IV) (gI : List IV → List IV → List IV) (es ks : MA) : ME := fun env => bnd (es env) fun xs => bnd (ks env) fun ys => runC f (.cls c :: gI xs ys)
def CalK (P : Program) (w : World) (K : PySem.W.Frag) (mg : Str → Option Value) (base : Heap) (k : Nat) (c m : Str) (n : Nat) (ks : List Str) (gI : List IV → List IV → List IV) (mf : List IV → M IV) : Prop :=
  ∃ q fn fd ps g gV mc o, FnG P w K mg base k fn fd ps mf ∧ CRead K (He.ga K c) mc ∧ CMet K (He.ga K c) mc m q fn ∧ mg c = some (.ref (He.ga K c)) ∧ KBn K fd ps (n + 1) ks g gV ∧ K.lookup (He.ga K c) = some o ∧ o.cls ≠ .type "tuple" ∧ o.cls ≠ .type "list" ∧
    (∀ (H : Hp) (r : List Addr) (v : V) (xs ys : List IV) (vs zs : List V), RVs K H r xs vs → RVs K H r ys zs → xs.length = n → ys.length = ks.length → ∃ us, gV (v :: vs) zs = v :: us ∧ RVs K H r (gI xs ys) us ∧ us.length + 1 = ps.length)
theorem CalK.mono {P : Program} {w : World} {K : PySem.W.Frag} {mg : Str → Option Value} {base : Heap} {j : Nat} {m : Str} (C : CalK P w K mg base j c m n ks gI mf) (h : j ≤ k) : CalK P w K mg base k c m n ks gI mf := by
  obtain ⟨q, fn, fd, ps, g, gV, mc, o, F, z⟩ := C
  exact ⟨q, fn, fd, ps, g, gV, mc, o, F.mono h, z⟩
theorem cm_split {σ : L2.St} {H : Hp} {r : List Addr} {env : Sm.Env} {st : Hs} {Q : VK} (l1 : LenA n ms) (l2 : LenA ks.length mk) (re : REnv X.K H r env σ) (hm : Mt X.K H r st) (h : Aft X W σ (rV X.K) r H (mCm c mf gI ms mk env st) Q) :
    Aft X W σ (rVs X.K) r H (ms env st) fun vs H1 => tA X W mk σ H1 fun zs H2 => ∃ r2 xs ys st2, Mt X.K H2 r2 st2 ∧ RVs X.K H2 r2 xs vs ∧ RVs X.K H2 r2 ys zs ∧ xs.length = n ∧ ys.length = ks.length ∧ Aft X W σ (rV X.K) r2 H2 (runC mf (.cls c :: gI xs ys) st2) Q := by
  unfold mCm bnd at h
  cases q : ms env st with
  | no => rw [q] at h; exact h
  | ex a s2 => rw [q] at h; exact h
  | ok xs s2 =>
    rw [q] at h
    refine fun r1 H1 vs x1 m1 rs => ⟨r1, env, s2, re.mono x1 hm, m1, ?_⟩
    have h := Aft.later h x1
    dsimp only at h
    cases q2 : mk env s2 with
    | no => rw [q2] at h; exact h
    | ex a s3 => rw [q2] at h; exact h
    | ok ys s3 =>
      rw [q2] at h
      exact fun r2 H2 zs x2 m2 rz => ⟨r2, xs, ys, s3, m2, rs.mono x2 m1, rz, l1 _ _ _ _ q, l2 _ _ _ _ q2, Aft.later h x2⟩
theorem pem_cmK {m : Str} {apos : Pos} {pl : Sem Bool} (C : CalK X.prog X.w X.K X.mg X.base k c m n ks gI mf) (hr : Room k X.A) (hgd : X.A.guards = some []) (hx : ∀ σ, PassesAt (L2.CX X.prog X.w) X σ (WE W σ)) (ha : PAm X W (e :: es) ms) (hkw : PKm X W kws mk) (l1 : LenA n ms) (l2 : LenA ks.length mk) (hg : Gl X c)
    (hall : (backToKw pos (keywordEach kws X.env)).all (·.1.isSome) = true := by rfl) (hks : (backToKw pos (keywordEach kws X.env)).filterMap (·.1) = ks := by rfl) (hdb : (c == ("__debug__" : Str)) = false := by decide)
    (he : starEach (e :: es) X.env = (false, eval e X.env) :: starEach es X.env := by rfl) (hpl : ((backTo pos (starEach (e :: es) X.env)).any (·.1) || (backToKw pos (keywordEach kws X.env)).any (·.1.isNone)) = false := by rfl)
    (ht : eval (.Call (.Attribute (.Name c p) m apos) (e :: es) kws pos) X.env = (do
      let ov ← eval (.Name c p) X.env
      standAt apos.atName
      let (f, first) ← holding [ov] (getMethod ov m pl)
      callWith pos f first (backTo pos (starEach (e :: es) X.env)) (backToKw pos (keywordEach kws X.env))) := by rfl) :
    PEm X W (.Call (.Attribute (.Name c p) m apos) (e :: es) kws pos) (mCm c mf gI ms mk) := by
  refine ⟨fun pins s σ H Q I ⟨r, env, st, re, hm, h⟩ => ?_⟩
  obtain ⟨q, fn, fd, ps, g, gV, mc, o, F, cr, cm, mC, hb, lk, c1, c2, hgi⟩ := C
  refine PySem.W.methodCall_KW (pl := pl) (ld_glob I hg mC ?_ hdb) ht
  refine getmethcm_ok I cr cm fun s2 I2 => ?_
  refine PySem.W.callWith_of (P := fun h => PySem.W.MethP X.K s.heap.objs.size fn (.ref (He.ga X.K c)) h) hpl (PySem.W.keeps_M cm.fi) (evalArgs_kw2 hall (thn (ha.run pos _ s2 σ H _ I2 ⟨r, env, st, re, hm, cm_split l1 l2 re hm h⟩) fun us s3 ⟨vs, H3, I3, rv, z⟩ => ?_) he)
  refine thn (hkw.run pos _ s3 σ H3 _ I3 z) fun ws s4 ⟨zs, H4, I4, rz, r4, xs, ys, st4, m4, rx, ry, e1, e2, h4⟩ => ⟨⟨pin_at I4, I4.kIn⟩, ?_⟩
  rw [hks]
  obtain ⟨vs2, e3, rs2, l3⟩ := hgi H4 r4 (V.ref (He.ga X.K c)) xs ys vs zs rx ry e1 e2
  have rb : Vals (V.ref (He.ga X.K c) :: vs) (Value.ref (He.ga X.K c) :: us) := .cons rfl rv
  have rg := hb.rel rb rz
  rw [e3] at rg
  have n1 : (Value.ref (He.ga X.K c) :: us).length = n + 1 := by rw [List.length_cons, ← rv.length, ← rx.length, e1]
  have n2 : ws.length = ks.length := by rw [← rz.length, ← ry.length, e2]
  have hsp := aft_sp (.cons (.cls rfl lk c1 c2) rs2) m4 h4
  refine wpAny_call (PySem.W.method_call (pin_at I4) (codeAny_mono (F X.A X.stack s4 H4 ⟨Value.ref (He.ga X.K c) :: us, ks.zip ws⟩ _ (V.ref (He.ga X.K c) :: vs2) Q (WE W σ) hr hgd I4.env0 (hb.to s4 _ ws I4.kIn n1 n2) rg (by rw [List.length_cons]; exact l3) hsp) fun res s' y => ?_))
  match res, y with
  | .error u, y => exact hx σ _ _ _ u s' I4 y
  | .ok (.ret u), y => exact unpinE (I4.after y)
  | .ok .next, y => exact y.elim
  | .ok .brk, y => exact y.elim
  | .ok .cont, y => exact y.elim
end
end Sm

set_option Elab.async false
set_option linter.all false
set_option maxRecDepth 100000
set_option maxHeartbeats 4000000
namespace Sm
open L2 PySem PySem.Spec PyProof.Rows StX ClX
/-! ### star parameters and classmethods, out of the head's facts -/
def KwChS {α : Type} (D : Addr) : List (Str × Value) → Sem α → Sem α → Prop
  | [], t, r => t = r
  | q :: l, t, r => ∃ (β γ : Type) (k1 : Option Value → Sem β) (k2 : β → Sem γ) (k3 : γ → Sem α) (a : β), t = ((nsGet D q.1 >>= k1) >>= k2) >>= k3 ∧ k1 (some q.2) = pure a ∧ KwChS D l (k2 a >>= k3) r
theorem KwChS.run {α : Type} {K : PySem.W.Frag} {M : Model} {A : Around} {E : Value → Shared → Prop} {s : Shared} {D : Addr} {Q : α → Shared → Prop} (X : K.In s.heap) : ∀ {l : List (Str × Value)} {t r : Sem α}, (∀ q ∈ l, PySem.W.nsIn K D q.1 = some (some q.2)) → KwChS D l t r → wpAny M A r Q E s → wpAny M A t Q E s
  | [], t, r, _, e, h => by
    have e : t = r := e
    rw [e]; exact h
  | q :: l, t, r, hl, e, h => by
    obtain ⟨β, γ, k1, k2, k3, a, e1, e2, e3⟩ := e
    have l1 : PySem.W.Looks M s.heap (nsGet D q.1 >>= k1) a := (PySem.W.looks_nsIn X (hl q List.mem_cons_self)).andThen (PySem.W.Looks.of_pure e2)
    rw [e1, bind_assoc]
    exact wpAny_bind (l1.here (KwChS.run X (fun p hp => hl p (List.mem_cons_of_mem _ hp)) e3 h))
/-- a tuple of ints that stands -/
def intsT (a : PySem.W.Frag → Addr) (ns : List Int) (K : PySem.W.Frag) : Bool := match K.lookup (a K) with
  | some ⟨.type t, none, .seq its _, _⟩ => t == "tuple" && decide (its.size ≤ sizeLine) && decide (its.toList.map (fun v => match v with | .int i _ => some i | _ => none) = ns.map some)
  | _ => false
theorem vals_ints : ∀ {us : List Value} {ns : List Int}, us.map (fun v => match v with | .int i _ => some i | _ => none) = ns.map some → Vals (ns.map V.int) us
  | [], [], _ => .nil
  | [], _ :: _, h => by cases h
  | _ :: _, [], h => by cases h
  | u :: us, n :: ns, h => by
    rw [List.map_cons, List.map_cons] at h
    injection h with h1 h2
    cases u with
    | int i t => cases h1; exact .cons ⟨t, rfl⟩ (vals_ints h2)
    | _ => cases h1
theorem intsT_ok {a : PySem.W.Frag → Addr} {ns : List Int} {K : PySem.W.Frag} {H : Hp} (h : intsT a ns K = true) : SqT K H (a K) (ns.map V.int) := by
  unfold intsT at h
  split at h
  · rename_i t its n sl e
    simp only [Bool.and_eq_true, beq_iff_eq, decide_eq_true_eq] at h
    obtain ⟨⟨rfl, h1⟩, h2⟩ := h
    exact .inr ⟨_, its, n, e, rfl, rfl, h1, vals_ints h2⟩
  · cases h
def clsO (c : Str) (K : PySem.W.Frag) : Bool := match K.lookup (He.ga K c) with
  | some o => decide (o.cls ≠ .type "tuple") && decide (o.cls ≠ .type "list")
  | none => false
theorem clsO_ok {c : Str} {K : PySem.W.Frag} (h : clsO c K = true) : ∃ o, K.lookup (He.ga K c) = some o ∧ o.cls ≠ .type "tuple" ∧ o.cls ≠ .type "list" := by
  unfold clsO at h
  split at h
  · rename_i o e
    simp only [Bool.and_eq_true, decide_eq_true_eq] at h
    exact ⟨o, e, h.1, h.2⟩
  · cases h
/-- classes whose attributes are read as ever, a classmethod of it -/
def cmB (c m : Str) (K : PySem.W.Frag) : Bool := PySem.W.readsIn K (He.ga K c) (.type "type") && (decide (PySem.W.specialIn K (.ref (He.ga K c)) "__getattribute__" = some (some (.builtin "type.__getattribute__"))) && (He5.wrapB K (He.ga K c) "classmethod" "classmethod.__get__" m && PySem.W.fnIn K (He5.wf K (He.ga K c) "classmethod" m)))
theorem cmB_ok {c m : Str} {K : PySem.W.Frag} (h : cmB c m K = true) : CRead K (He.ga K c) (.type "type") ∧ CMet K (He.ga K c) (.type "type") m (He.ma K (He.ga K c) m) (He5.wf K (He.ga K c) "classmethod" m) := by
  unfold cmB at h
  simp only [Bool.and_eq_true, decide_eq_true_eq] at h
  exact ⟨⟨h.1, h.2.1⟩, He5.cmet_of h.2.2.1 h.2.2.2⟩
def DefAtS (K : PySem.W.Frag) (mg : Str → Option Value) (c q : Str) (t : Stmt) (ps : List Str) (n : Nat) (ks : List Str) (gI : List IV → List IV → List IV) : Prop :=
  ∃ f fd g gV, Fun K "__init__" q t f fd ∧ Mk K (He.ga K c) f ∧ mg c = some (.ref (He.ga K c)) ∧ BnS K fd ps (n + 1) ks g gV ∧
    (∀ (H : Hp) (r : List Addr) (v : V) (xs ys : List IV) (vs zs : List V), RVs K H r xs vs → RVs K H r ys zs → xs.length = n → ys.length = ks.length → ∃ us, gV (v :: vs) zs = v :: us ∧ RVs K H r (gI xs ys) us)
def DefAtK (K : PySem.W.Frag) (mg : Str → Option Value) (c m q : Str) (t : Stmt) (ps : List Str) (n : Nat) (ks : List Str) (gI : List IV → List IV → List IV) : Prop :=
  ∃ fn p fd g gV o, Fun K m q t fn fd ∧ CRead K (He.ga K c) (.type "type") ∧ CMet K (He.ga K c) (.type "type") m p fn ∧ mg c = some (.ref (He.ga K c)) ∧ KBn K fd ps (n + 1) ks g gV ∧ K.lookup (He.ga K c) = some o ∧ o.cls ≠ .type "tuple" ∧ o.cls ≠ .type "list" ∧
    (∀ (H : Hp) (r : List Addr) (v : V) (xs ys : List IV) (vs zs : List V), RVs K H r xs vs → RVs K H r ys zs → xs.length = n → ys.length = ks.length → ∃ us, gV (v :: vs) zs = v :: us ∧ RVs K H r (gI xs ys) us ∧ us.length + 1 = ps.length)
section
variable {P : Program} {w : World} {K : PySem.W.Frag} {mg : Str → Option Value} {base : Heap} {k n : Nat} {c m q : Str} {t : Stmt} {N ps ks : List Str} {gI : List IV → List IV → List IV} {b : MS}
theorem calS_of (D : DefAtS K mg c q t ps n ks gI) (S : FnScope N ps (defScope t))
    (hb : ∀ (f : Addr) (cd : Value) (A : Around) (fr : List PySem.Env) (s : Shared) (H : Hp) (E : XK), Bd k (bX P w K mg base N q t f cd A fr s H E) (fun cls d _ H' => E cls d H') → PSsm (bX P w K mg base N q t f cd A fr s H E) (fun cls d _ H' => E cls d H') (defBody t) b) :
    CalS P w K mg base (k + 1) c n ks gI (mDef N.length b) := by
  obtain ⟨f, fd, g, gV, F, M, e, B, R⟩ := D
  exact ⟨f, gV, fns_of F S B (hb f), M, e, R⟩
theorem calK_of (D : DefAtK K mg c m q t ps n ks gI) (S : FnScope N ps (defScope t))
    (hb : ∀ (f : Addr) (cd : Value) (A : Around) (fr : List PySem.Env) (s : Shared) (H : Hp) (E : XK), Bd k (bX P w K mg base N q t f cd A fr s H E) (fun cls d _ H' => E cls d H') → PSsm (bX P w K mg base N q t f cd A fr s H E) (fun cls d _ H' => E cls d H') (defBody t) b) :
    CalK P w K mg base (k + 1) c m n ks gI (mDef N.length b) := by
  obtain ⟨fn, p, fd, g, gV, o, F, cr, cm, e, B, lk, c1, c2, R⟩ := D
  exact ⟨p, fn, fd, ps, g, gV, _, o, fng_of F S (hb fn), cr, cm, e, B, lk, c1, c2, R⟩
/-- the keywords are given -/
theorem defAtS_kw {kws : List (Str × V)} (h : ∃ fd, FunD K "__init__" q (defArgs t) (defBody t) (defScope t) [] kws (He.ma K (He.ga K c) "__init__") fd) (M : Mk K (He.ga K c) (He.ma K (He.ga K c) "__init__")) (e : mg c = some (.ref (He.ga K c)))
    (hB : ∀ (kV doc pm : Value) (an : Option Addr) (cdv ct : Value) (us rest ws : List Value), us.length = n + 1 → ws.length = ks.length → bindArgs (PySem.W.fnOf "__init__" q (defArgs t) (defBody t) (defScope t) .none kV doc pm an cdv ct) ⟨us ++ rest, ks.zip ws⟩ = (newTuple rest >>= fun tp => pure (ps.zip (us ++ ws ++ [tp]))))
    (hl : n + 1 + ks.length + 1 = ps.length) : DefAtS K mg c q t ps n ks (fun xs ys => xs ++ ys) := by
  obtain ⟨fd, F⟩ := h
  obtain ⟨oc, od, dV, kV, doc, pm, an, cdv, ct, osl, rfl, lk, hcd, hD, hK⟩ := F.ex
  refine ⟨_, _, fun us ws => us ++ ws, fun vs zs => vs ++ zs, He5.fun_of F, M, e, ⟨fun M A E Q s us rest ws X l1 l2 hq => ?_, fun a b => a.append b, fun us ws l1 l2 => by rw [List.length_append, l1, l2]; exact hl⟩, fun H r v xs ys vs zs rx ry lx ly => ⟨vs ++ zs, rfl, rx.append ry⟩⟩
  rcases hD with ⟨_, rfl⟩ | ⟨e, _⟩
  · rw [hB kV doc pm an cdv ct us rest ws l1 l2]
    exact hq
  · exact absurd rfl e
/-- one keyword is left out: its default a tuple of ints -/
theorem defAtS_et {kws : List (Str × V)} {a : PySem.W.Frag → Addr} {x : Str} {ns : List Int} (h : ∃ fd, FunD K "__init__" q (defArgs t) (defBody t) (defScope t) [] kws (He.ma K (He.ga K c) "__init__") fd) (hk : kws = [(x, V.ref (a K))]) (M : Mk K (He.ga K c) (He.ma K (He.ga K c) "__init__")) (e : mg c = some (.ref (He.ga K c))) (E : intsT a ns K = true)
    (hB : ∀ (D : Addr) (doc pm : Value) (an : Option Addr) (cdv ct d : Value) (us rest : List Value), us.length = n + 1 → KwChS D [(x, d)] (bindArgs (PySem.W.fnOf "__init__" q (defArgs t) (defBody t) (defScope t) .none (.ref D) doc pm an cdv ct) ⟨us ++ rest, []⟩) (newTuple rest >>= fun tp => pure (ps.zip (us ++ [d] ++ [tp]))))
    (hl : n + 1 + 1 + 1 = ps.length) : DefAtS K mg c q t ps n [] (fun xs _ => xs ++ [.tup (ns.map .int)]) := by
  obtain ⟨fd, F⟩ := h
  obtain ⟨oc, od, dV, kV, doc, pm, an, cdv, ct, osl, rfl, lk, hcd, hD, hK⟩ := F.ex
  rcases hD with ⟨_, rfl⟩ | ⟨e, _⟩
  · rcases hK with e2 | ⟨D, rfl, hq⟩
    · rw [hk] at e2; cases e2
    · obtain ⟨u, hu, ru⟩ := hq (x, V.ref (a K)) (by rw [hk]; simp)
      refine ⟨_, _, fun us _ => us ++ [u], fun vs _ => vs ++ [V.ref (a K)], He5.fun_of F, M, e, ⟨fun M A E Q s us rest ws X l1 l2 hq2 => ?_, fun a b => a.append (.cons ru .nil), fun us ws l1 l2 => by rw [List.length_append, l1]; exact hl⟩, fun H r v xs ys vs zs rx ry lx ly => ⟨vs ++ [V.ref (a K)], rfl, rx.append (.cons (.tup (intsT_ok E) ?_) .nil)⟩⟩
      · have : ws = [] := List.length_eq_zero_iff.mp l2
        subst this
        refine KwChS.run X (fun q hq3 => ?_) (hB D doc pm an cdv ct u us rest l1) hq2
        rw [List.mem_singleton.mp hq3]
        exact hu
      · exact rvs_ints ns
  · exact absurd rfl e
theorem defAtK_mk {kws : List (Str × V)} (h : ∃ fd, FunD K m q (defArgs t) (defBody t) (defScope t) [] kws (He5.wf K (He.ga K c) "classmethod" m) fd) (b : cmB c m K = true) (o : clsO c K = true) (e : mg c = some (.ref (He.ga K c)))
    (B : ∀ fd, FunD K m q (defArgs t) (defBody t) (defScope t) [] kws (He5.wf K (He.ga K c) "classmethod" m) fd → ∃ mv : List Value, KBn K fd ps (n + 1) ks (fun us ws => us ++ ws) (fun vs zs => vs ++ zs)) (hl : n + ks.length + 1 = ps.length) : DefAtK K mg c m q t ps n ks (fun xs ys => xs ++ ys) := by
  obtain ⟨fd, F⟩ := h
  obtain ⟨mv, B⟩ := B fd F
  obtain ⟨cr, cm⟩ := cmB_ok b
  obtain ⟨ob, lk, c1, c2⟩ := clsO_ok o
  refine ⟨_, _, fd, _, _, ob, He5.fun_of F, cr, cm, e, B, lk, c1, c2, fun H r v xs ys vs zs rx ry lx ly => ⟨vs ++ zs, rfl, rx.append ry, ?_⟩⟩
  rw [List.length_append, ← rx.length, ← ry.length, lx, ly]
  exact hl
end
end Sm

set_option Elab.async false
set_option linter.all false
set_option maxRecDepth 100000
set_option maxHeartbeats 4000000
namespace Sm
open L2 PySem PySem.Spec
/-! ### isinstance(x, T) where x may be an own instance; what is never reached -/
section
variable {X : Cx} {W : WX} {r r' : List Addr} {H H' : Hp} {σ : L2.St} {env : Env} {st : Hs} {k : Nat} {pos : Pos}
theorem psm_no {s : Stmt} : PSm X W s sNo := ⟨fun pins s σ H D I ⟨r, env, st, _, _, h⟩ => h.elim⟩
theorem pssm_no {s : List Stmt} : PSsm X W s sNo := ⟨fun pins s σ H D I ⟨r, env, st, _, _, h⟩ => h.elim⟩
def mNone : ME := fun _ => stuck
theorem pem_none {e : Expr} : PEm X W e mNone := ⟨fun pins s σ H Q I ⟨r, env, st, _, _, h⟩ => h.elim⟩
/-- isinstance(x, T), T a type of the language: cs, the own classes that are known -/
def mIsO (cs : List Str) (T : String) (m : ME) : ME := fun env => bnd (m env) fun x st => match tyOf st x with
  | some (.bi t) => .ok (.bl (subTy t T)) st
  | some (.own d) => if d ∈ cs then .ok (.bl false) st else .no
  | none => .no
def IsT (K : PySem.W.Frag) (cs : List Str) (T : String) : Prop := ∀ d, d ∈ cs → ClsT K d ∧ PySem.W.kitOne K (.ref (He.ga K d)) (.type T) = some false
def isTb (K : PySem.W.Frag) (cs : List Str) (T : String) : Bool := cs.all fun d => clsTb K d && decide (PySem.W.kitOne K (.ref (He.ga K d)) (.type T) = some false)
theorem isT_ok {K : PySem.W.Frag} {cs : List Str} {T : String} (h : isTb K cs T = true) : IsT K cs T := by
  unfold isTb at h
  simp only [Bool.and_eq_true, List.all_eq_true, decide_eq_true_eq] at h
  exact fun d hd => ⟨clsT_ok (h d hd).1, (h d hd).2⟩
theorem pem_isO {cs : List Str} {T : String} {a : Expr} {ma : ME} {xT : Str} {p p2 : Pos} (F : IsT X.K cs T) (ha : PEm X W a ma) (hg : Gl X "isinstance") (hm : X.mg "isinstance" = none) (gT : Gl X xT) (mT : X.mg xT = none) (vT : bootBuiltins xT = some (.type T))
    (kit : ∀ t, t ∈ biTys → kitB t T = some (subTy t T)) (hn : xT ≠ "__name__" := by decide) (hdb : (xT == ("__debug__" : Str)) = false := by decide)
    (s1 : starEach [a, .Name xT p2] X.env = (false, eval a X.env) :: starEach [.Name xT p2] X.env := by rfl) (s2 : starEach [.Name xT p2] X.env = (false, eval (.Name xT p2) X.env) :: starEach [] X.env := by rfl)
    (hpl : (backTo pos (starEach [.Name xT p2] X.env)).any (·.1) = false := by rfl) : PEm X W (.Call (.Name "isinstance" p) [a, .Name xT p2] [] pos) (mIsO cs T ma) :=
  PE.weak (pe_callB call_isi hg hm (by rfl) (pa_cons ha (pa_cons (pe_bltn gT mT vT (v := .ty T) rfl hn hdb) pa_nil s2) s1) (by decide) (by decide) s1 hpl) fun σ H Q ⟨r, env, st, he, hm, h⟩ => ⟨r, env, st, he, hm, h.split.imp fun v H1 ⟨x, r1, st1, x1, m1, rv, h1⟩ => by
    cases q : tyOf st1 x with
    | none => rw [q] at h1; exact h1.elim
    | some t =>
      rw [q] at h1
      cases t with
      | bi t =>
        exact ⟨v, .ty T, .type t, .type T, _, rfl, .ty T, tyX_at m1 q (fun c e => nomatch e) rv, kit_ty (kit t (tyOf_bi q)), h1 r1 H1 _ Xt.refl m1 (.bl _)⟩
      | own d =>
        dsimp only at h1
        by_cases hd : d ∈ cs
        · rw [if_pos hd] at h1
          obtain ⟨T1, kk⟩ := F d hd
          exact ⟨v, .ty T, .ref _, .type T, _, rfl, .ty T, tyX_at m1 q (fun c e => by cases e; exact T1) rv, kk, h1 r1 H1 _ Xt.refl m1 (.bl _)⟩
        · rw [if_neg hd] at h1; exact h1.elim⟩
end
end Sm

set_option Elab.async false
set_option linter.all false
set_option maxRecDepth 100000
set_option maxHeartbeats 4000000
namespace Sm
open L2 PySem PySem.Spec
theorem Room.u2 {k : Nat} {A : Around} (r : Room k A) : A.units + 128 < cLine := by have := r.un; omega
/-! ### == and != by the own __eq__, the other one an instance of another own class -/
def NfF (K : PySem.W.Frag) (cs : List Str) : Prop := ∀ c d, c ∈ cs → d ∈ cs → ClsT K d ∧ PySem.W.notFirst K (He.ga K c) (.ref (He.ga K d)) = true
def nfB (cs : List Str) (K : PySem.W.Frag) : Bool := cs.all fun c => cs.all fun d => clsTb K d && PySem.W.notFirst K (He.ga K c) (.ref (He.ga K d))
theorem nfF_ok {K : PySem.W.Frag} {cs : List Str} (h : nfB cs K = true) : NfF K cs := by
  unfold nfB at h
  simp only [Bool.and_eq_true, List.all_eq_true] at h
  exact fun c d hc hd => ⟨clsT_ok (h c hc d hd).1, (h c hc d hd).2⟩
def oOwx (cs : List Str) (plain : O2) (neg : Bool) (alts : Alts) : O2 := fun x y st => match tyOf st x, tyOf st y with
  | some (.own c), some (.own d) => if c ∈ cs ∧ d ∈ cs then (match alts.lookup c with
    | some f => goOwn f x y st neg
    | none => none) else none
  | _, _ => oOwn plain neg alts x y st
section
variable {X : Cx} {W : WX} {r r' : List Addr} {H H' : Hp} {σ : L2.St} {env : Env} {st : Hs} {k : Nat} {pos : Pos}
theorem owx_pre {cs : List Str} {alts : Alts} {plain : O2} {neg : Bool} {x y : IV} {z : IV × Hs} (h : oOwx cs plain neg alts x y st = some z) : oOwn plain neg alts x y st = some z ∨
    ∃ c d f b st', tyOf st x = some (.own c) ∧ tyOf st y = some (.own d) ∧ c ∈ cs ∧ d ∈ cs ∧ alts.lookup c = some f ∧ runC f [x, y] st = .ok (.bl b) st' ∧ z = (.bl (b != neg), st') := by
  unfold oOwx at h
  split at h
  · rename_i c d e1 e2
    split at h
    · rename_i q
      split at h
      · rename_i f hf
        unfold goOwn at h
        split at h
        · rename_i b st' e
          cases h
          exact .inr ⟨c, d, f, b, st', e1, e2, q.1, q.2, hf, e, rfl⟩
        · cases h
      · cases h
    · cases h
  · exact .inl h
theorem or_eqX {cs : List Str} {alts : Alts} (hu : X.A.units + 64 < cLine) (F : EqF X.prog X.w X.K X.mg X.base k alts) (N : NfF X.K cs) (hr : Room k X.A) (hgd : X.A.guards = some []) : OpR X (compareOp .Eq) (rM2 X.K (oOwx cs oEq false alts)) := by
  intro pins s σ H x' y' v u Q I rx ry ⟨r, x, y, st, m, hx, hy, h⟩
  cases q : oOwx cs oEq false alts x y st with
  | none => rw [q] at h; exact h.elim
  | some z =>
    rw [q] at h
    rcases owx_pre q with q | ⟨c, d, f, b, st', e1, e2, hc, hd, e4, e5, rfl⟩
    · exact or_eqO hu F hr hgd pins s σ H x' y' v u Q I rx ry ⟨r, x, y, st, m, hx, hy, by rw [q]; exact h⟩
    · obtain ⟨ns, xs, ei⟩ := tyOf_own e1
      obtain ⟨p, dx, fs, rfl, hp, _⟩ := ins_at m ei hx
      cases (show v = Value.ref p from rx)
      obtain ⟨g, s1, s2, run⟩ := own_run F hr hgd e4 (Q := Q) I m hx hy ry hp e5 fun r' H' x2 m2 => by
        have := h r' H' (.bl b) x2 m2
        simp only [Bool.bne_false] at this
        exact this (.bl b)
      obtain ⟨mA, J, _⟩ := ins_get I.hok hp
      obtain ⟨od, J, _⟩ := J.look
      obtain ⟨mm, hF⟩ := I.fr
      obtain ⟨T, nf⟩ := N c d hc hd
      have tx := tyX_at m e2 (fun c' hd' => by cases hd'; exact T) hy
      show wpAny (model X.prog X.w) X.A (richCompare .Eq (.ref p) u) (EP X pins σ Q) X.xe s
      refine PySem.W.cmp_K (op := .Eq) (tb := .ref (He.ga X.K d)) (by omega) hF I.ok.mod.kin J (looks_ty I ry tx) nf s1 s2 (wpAny_mono run (fun w s' z => ?_) fun _ _ e => e)
      obtain ⟨rfl, z⟩ := z
      exact z
theorem or_neX {cs : List Str} {alts : Alts} (hu : X.A.units + 64 < cLine) (F : EqF X.prog X.w X.K X.mg X.base k alts) (Nn : NeF X.K alts) (N : NfF X.K cs) (hr : Room (k + 1) X.A) (hgd : X.A.guards = some []) : OpR X (compareOp .NotEq) (rM2 X.K (oOwx cs oNe true alts)) := by
  intro pins s σ H x' y' v u Q I rx ry ⟨r, x, y, st, m, hx, hy, h⟩
  cases q : oOwx cs oNe true alts x y st with
  | none => rw [q] at h; exact h.elim
  | some z =>
    rw [q] at h
    rcases owx_pre q with q | ⟨c, d, f, b, st', e1, e2, hc, hd, e4, e5, rfl⟩
    · exact or_neO hu F Nn hr hgd pins s σ H x' y' v u Q I rx ry ⟨r, x, y, st, m, hx, hy, by rw [q]; exact h⟩
    · obtain ⟨ns, xs, ei⟩ := tyOf_own e1
      obtain ⟨p, dx, fs, rfl, hp, _⟩ := ins_at m ei hx
      cases (show v = Value.ref p from rx)
      obtain ⟨g, fd, ps, G, hps, cl, mt, hb⟩ := F.cal c f e4
      have hs : spM X.K X.mg f [V.ref p, y'] H (fun v H' => v = .bl b ∧ Q (.bl (!b)) H') (WE (fun _ _ _ _ => False) σ) := aft_sp (W := fun _ _ _ _ => False) (.cons hx (.cons hy .nil)) m (by
        rw [e5]
        intro r' H' v x2 m2 rv
        have rv : RV X.K H' r' (.bl b) v := rv
        cases rv
        have := h r' H' (.bl (!b)) x2 m2
        simp only [Bool.bne_true] at this
        exact ⟨rfl, this (.bl (!b))⟩)
      obtain ⟨mA, J, _⟩ := ins_get I.hok hp
      obtain ⟨od, J, _⟩ := J.look
      have T1 := F.cls c f e4
      obtain ⟨T, nf⟩ := N c d hc hd
      have tx := tyX_at m e2 (fun c' hd' => by cases hd'; exact T) hy
      show wpAny (model X.prog X.w) X.A (richCompare .NotEq (.ref p) u) (EP X pins σ Q) X.xe s
      refine ne_K (tb := .ref (He.ga X.K d)) (by omega) I.kIn J (looks_ty I ry tx) nf (Nn c f e4) T1.hm mt.at_ mt.fn (thn (run_in1 (us := [.ref p, u]) (vs := [V.ref p, y']) G hr hgd hb I (.cons rfl (.cons ry .nil)) (by rw [hps]; rfl) hs) fun v s' ⟨z, H', I', rz, ez, q⟩ => ?_)
      subst ez
      cases (show v = Value.bool b from rz)
      exact ⟨b, rfl, .bl (!b), H', I', rfl, q⟩
end
end Sm
namespace Sm
open L2 PySem PySem.Spec
/-- a class's own special method is a def -/
def fnB (c m : Str) (K : PySem.W.Frag) : Bool := match PySem.W.findIn K (.ref (He.ga K c)) m with
  | some (some (.ref g)) => PySem.W.fnIn K g
  | _ => false
theorem fnB_ok {c m : Str} {K : PySem.W.Frag} (h : fnB c m K = true) : ∀ g, PySem.W.findIn K (.ref (He.ga K c)) m = some (some (.ref g)) → PySem.W.fnIn K g = true := fun g e => by
  unfold fnB at h
  rw [e] at h
  exact h
end Sm

set_option Elab.async false
set_option linter.all false
set_option maxRecDepth 100000
set_option maxHeartbeats 4000000
namespace Sm
open L2 PySem PySem.Spec
/-! ### how mirrors run, step by step; what is drawn (names, indices, moves, forms) -/
def UrnO (o : IO) : Prop := ∃ g s c : Int, o = .lst [.int g, .int s, .int c]
def Urn (st : Hs) (a : Nat) : Prop := (∃ o, st[a]? = some o ∧ UrnO o) ∧ noIns st = true
theorem noIns_app {st l : Hs} (h : noIns st = true) (hl : noIns l = true) : noIns (st ++ l) = true := by
  unfold noIns at h hl ⊢
  rw [List.all_append, h, hl]
  rfl
theorem noIns_set {st : Hs} {a : Nat} {o : IO} (h : noIns st = true) (ho : noIns [o] = true) : noIns (st.set a o) = true := by
  unfold noIns at h ho ⊢
  rw [List.all_eq_true] at h ⊢
  intro x hx
  rcases List.mem_or_eq_of_mem_set hx with q | q
  · exact h x q
  · rw [q]
    simpa using ho
theorem Urn.ni {st : Hs} {a : Nat} (h : Urn st a) : noIns st = true := h.2
structure Gr (a : Nat) (st st' : Hs) : Prop where
  le : st.length ≤ st'.length
  urn : Urn st' a
  fr : ∀ i, i ≠ a → i < st.length → st'[i]? = st[i]?
theorem Urn.lt {st : Hs} {a : Nat} (h : Urn st a) : a < st.length := by
  obtain ⟨⟨o, h, _⟩, _⟩ := h
  exact (List.getElem?_eq_some_iff.mp h).1
theorem Gr.refl {st : Hs} {a : Nat} (h : Urn st a) : Gr a st st := ⟨Nat.le_refl _, h, fun _ _ _ => rfl⟩
theorem Gr.trans {st st1 st2 : Hs} {a : Nat} (h : Gr a st st1) (g : Gr a st1 st2) : Gr a st st2 := ⟨Nat.le_trans h.le g.le, g.urn, fun i n l => (g.fr i n (Nat.lt_of_lt_of_le l h.le)).trans (h.fr i n l)⟩
theorem Gr.set {st : Hs} {a : Nat} {o : IO} (h : Urn st a) (u : UrnO o) : Gr a st (st.set a o) := ⟨by simp, ⟨⟨o, by simp [h.lt], u⟩, noIns_set h.ni (by obtain ⟨_, _, _, rfl⟩ := u; rfl)⟩, fun i n _ => by rw [List.getElem?_set_ne (Ne.symm n)]⟩
theorem Gr.app {st : Hs} {a : Nat} {l : Hs} (h : Urn st a) (hl : noIns l = true := by rfl) : Gr a st (st ++ l) := ⟨by simp, by
  obtain ⟨⟨o, h1, h2⟩, h3⟩ := h
  exact ⟨⟨o, by rw [List.getElem?_append_left (List.getElem?_eq_some_iff.mp h1).1]; exact h1, h2⟩, noIns_app h3 hl⟩, fun i _ l => by rw [List.getElem?_append_left l]⟩
def LET : Str := "abcdefghijklmnopqrstuvwxyz"
def isBelow (v : IV) (l : Int) : Bool := match v with
  | .int i => decide (-10000000000000000000000000000000000000000 < i) && decide (i < 10000000000000000000000000000000000000000) && (decide (0 ≤ i) && decide (i < l))
  | _ => false
def isName (v : IV) : Bool := match v with
  | .str z => decide (0 < z.length) && decide (z.length ≤ 8) && z.cps.toList.all fun c => decide (c ∈ LET.cps.toList)
  | _ => false
def isInt (v : IV) : Bool := match v with
  | .int i => decide (-10000000000000000000000000000000000000000 < i) && decide (i < 10000000000000000000000000000000000000000)
  | _ => false
theorem run_of {f : List IV → M IV} {xs : List IV} {st : Hs} {b : Bool} (h : ∀ st, knIs st xs = true → ∃ l, f xs st = .ok (.bl b) (st ++ l)) (k : knIs st xs = true) : ∃ l, runC f xs st = .ok (.bl b) (st ++ l) := by
  by_cases c : clIs xs = true
  · obtain ⟨l, e⟩ := h [] (kns_cl xs c k)
    exact ⟨[], by rw [List.append_nil]; exact runC_cl c rfl ⟨_, e⟩⟩
  · unfold runC
    rw [if_neg c]
    exact h st k
theorem run_same {f : List IV → M IV} {xs : List IV} {st : Hs} {b : Bool} (h : ∀ st, knIs st xs = true → f xs st = .ok (.bl b) st) (k : knIs st xs = true) : runC f xs st = .ok (.bl b) st := by
  by_cases c : clIs xs = true
  · exact runC_cl c rfl ⟨_, h [] (kns_cl xs c k)⟩
  · unfold runC
    rw [if_neg c]
    exact h st k
theorem Gr.lst {a b : Nat} {st st' : Hs} {xs : List IV} (g : Gr a st st') (h : st[b]? = some (.lst xs)) (n : b ≠ a) : st'[b]? = some (.lst xs) := (g.fr b n (List.getElem?_eq_some_iff.mp h).1).trans h
def Nm (v : IV) : Prop := ∃ cs : List Nat, v = .str ⟨cs.toArray⟩ ∧ 0 < cs.length ∧ cs.length ≤ 8 ∧ ∀ c ∈ cs, c ∈ LET.cps.toList
theorem Nm.is {v : IV} (h : Nm v) : isName v = true := by
  obtain ⟨cs, rfl, h0, h1, h2⟩ := h
  have e : (⟨cs.toArray⟩ : Str).length = cs.length := rfl
  unfold isName
  simp only [e, h0, h1, decide_true, Bool.true_and]
  simpa using h2
def Ix (v : IV) (l : Int) : Prop := ∃ i : Int, v = .int i ∧ 0 ≤ i ∧ i < l
theorem Ix.is {v : IV} {l : Int} (h : Ix v l) (hl : l ≤ 12) : isBelow v l = true := by
  obtain ⟨i, rfl, h0, h1⟩ := h
  have a : -10000000000000000000000000000000000000000 < i := by omega
  have b : i < 10000000000000000000000000000000000000000 := by omega
  simp [isBelow, a, b, h0, h1]
theorem Nm.cl {v : IV} (h : Nm v) : clI v = true := by obtain ⟨cs, rfl, _⟩ := h; rfl
theorem Ix.cl {v : IV} {l : Int} (h : Ix v l) : clI v = true := by obtain ⟨i, rfl, _⟩ := h; rfl
theorem Nm.kn {v : IV} (h : Nm v) (st : Hs) : knI st v = true := by
  obtain ⟨cs, rfl, h0, h1, _⟩ := h
  refine decide_eq_true (Nat.le_trans (show cs.toArray.size ≤ 8 by simpa using h1) (by decide))
theorem Ix.kn {v : IV} {l : Int} (h : Ix v l) (st : Hs) : knI st v = true := by obtain ⟨i, rfl, _⟩ := h; rfl
theorem Gr.setb {a b : Nat} {st st' : Hs} {o : IO} (g : Gr a st st') (n : b ≠ a) (l : st.length ≤ b) (ho : noIns [o] = true := by rfl) : Gr a st (st'.set b o) := ⟨by simp [g.le], by
  obtain ⟨⟨u, h1, h2⟩, h3⟩ := g.urn
  exact ⟨⟨u, by rw [List.getElem?_set_ne n]; exact h1, h2⟩, noIns_set h3 ho⟩, fun i h1 h2 => by rw [List.getElem?_set_ne (by omega)]; exact g.fr i h1 h2⟩

theorem goLc_filt {s : Src} {g : MG} {c : MT} {m : ME} {env : Sm.Env} {B : Nat → Bool} {F : Nat → IV} {st : Hs} (fin : s.fin st = true)
    (hb : ∀ i, i < s.n → ∃ x env', s.item i st = some x ∧ g x env st = .ok env' st ∧ c env' st = .ok (B i) st ∧ (B i = true → m env' st = .ok (F i) st)) :
    ∀ (k i : Nat) (acc : List IV), i + k = s.n → s.n ≤ big → acc.length ≤ i → goLc s g c m env k i acc st = .ok (acc ++ ((List.range' i k).filter B).map F) st
  | 0, i, acc, ek, hn, hl => by
    unfold goLc
    rw [if_pos fin]
    simp
  | k + 1, i, acc, ek, hn, hl => by
    obtain ⟨x, env', e1, e2, e3, e4⟩ := hb i (by omega)
    unfold goLc
    simp only [e1, e2, e3]
    by_cases q : B i = true
    · simp only [q, e4 q]
      rw [if_pos (by omega), goLc_filt fin hb k (i + 1) (acc ++ [F i]) (by omega) hn (by simp; omega)]
      simp [List.range'_succ, q]
    · have q : B i = false := by simpa using q
      simp only [q]
      rw [goLc_filt fin hb k (i + 1) acc (by omega) hn (by omega)]
      simp [List.range'_succ, q]
def nmB (s : Str) : Bool := decide (0 < s.length) && decide (s.length ≤ 8) && s.cps.toList.all fun c => decide (c ∈ LET.cps.toList)
theorem nm_of {s : Str} (h : nmB s = true) : Nm (.str s) := by
  simp only [nmB, Bool.and_eq_true, decide_eq_true_eq, List.all_eq_true] at h
  exact ⟨s.cps.toList, by cases s; simp, by simpa [Str.length] using h.1.1, by simpa [Str.length] using h.1.2, h.2⟩
theorem anyI_str {st : Hs} {x : Str} {ss : List Str} : anyI st (.str x) (ss.map .str) = some (ss.any fun y => y == x) := by
  unfold anyI
  rw [if_pos (by rw [List.all_map, List.all_eq_true]; intro y _; rfl), List.any_map]
  congr 2
  funext y
  show (some (y == x) == some true) = (y == x)
  cases (y == x) <;> rfl
def Mv (p : Int) (sz : Nat) (m : IV) : Prop := (∃ h t es, m = .tup [.str "set", h, .tup es, t] ∧ Ix h p ∧ Ix t p ∧ es.length = sz ∧ ∀ e ∈ es, e = .non ∨ Ix e sz) ∨ (∃ h n t, m = .tup [.str "call", h, n, t] ∧ Ix h p ∧ Nm n ∧ Ix t p)
theorem rg1_nat {ms : MA} {env : Sm.Env} {st st' : Hs} {n : Nat} (e : ms env st = .ok [.int n] st') (h : n ≤ 64) : iRg1 ms env st = .ok (.rng 0 n) st' := by
  unfold iRg1 bnd
  rw [e]
  dsimp only
  rw [if_pos ⟨by omega, by omega⟩, Int.toNat_natCast]
theorem lc_ok {i : MI} {g : MG} {c : MT} {m : ME} {vs : List Nat} {env : Sm.Env} {st st1 st2 : Hs} {s : Src} {xs : List IV} (h1 : i env st = .ok s st1) (h2 : goLc s g c m (wipeI env vs) s.n 0 [] st1 = .ok xs st2) : mLc i g c m vs env st = .ok (.ref st2.length) (st2 ++ [.lst xs]) := by
  simp only [mLc, bnd, h1, h2]
theorem tup_ok {m : ME} {env : Sm.Env} {st st' : Hs} {a : Nat} {xs : List IV} (h : m env st = .ok (.ref a) st') (hl : st'[a]? = some (.lst xs)) : mB bTuple (maC m maN) env st = .ok (.tup xs) st' := by
  simp only [mB, maC, maN, bnd, h, Sm.ret, bTuple, seqOf, lstOf, hl, ioL, lf, Option.map_some]
theorem call_ok {f : List IV → M IV} {es : MA} {env : Sm.Env} {st st' : Hs} {xs : List IV} {r : Rs IV} (h : es env st = .ok xs st') (h2 : runC f xs st' = r) : mCall f es env st = r := by
  simp only [mCall, bnd, h, h2]
theorem c_ok {m : ME} {es : MA} {env : Sm.Env} {st st1 st2 : Hs} {x : IV} {xs : List IV} (h : m env st = .ok x st1) (h2 : es env st1 = .ok xs st2) : maC m es env st = .ok (x :: xs) st2 := by
  simp only [maC, bnd, h, h2, Sm.ret]
theorem n_ok {env : Sm.Env} {st : Hs} : maN env st = .ok [] st := rfl
theorem v_ok {i : Nat} {env : Sm.Env} {st : Hs} {x : IV} (h : env[i]? = some (some x)) : mVar i env st = .ok x st := by
  simp only [mVar, h]
theorem tp_ok {es : MA} {env : Sm.Env} {st st' : Hs} {xs : List IV} (h : es env st = .ok xs st') (hl : xs.length ≤ big) : mTup es env st = .ok (.tup xs) st' := by
  simp only [mTup, bnd, h, if_pos hl, Sm.ret]
theorem ls_ok {es : MA} {env : Sm.Env} {st st' : Hs} {xs : List IV} (h : es env st = .ok xs st') (hl : xs.length ≤ big) : mLst es env st = .ok (.ref st'.length) (st' ++ [.lst xs]) := by
  simp only [mLst, bnd, h, if_pos hl, newL, lf]
theorem rt_ok {m : ME} {env : Sm.Env} {st st' : Hs} {x : IV} (h : m env st = .ok x st') : sRet m env st = .rt x st' := by
  simp only [sRet, sE, h]
theorem asg_ok {m : ME} {g : MG} {env env' : Sm.Env} {st st1 st2 : Hs} {x : IV} (h : m env st = .ok x st1) (h2 : g x env st1 = .ok env' st2) : sAsg m g env st = .nx env' st2 := by
  simp only [sAsg, sE, h, h2, asNx]
theorem ix_ok {m1 m2 : ME} {env : Sm.Env} {st st1 st2 : Hs} {x y : IV} {xs : List IV} {k : Nat} (h : m1 env st = .ok x st1) (h2 : m2 env st1 = .ok (.int k) st2) (hs : seqOf st2 x = some xs) (hy : xs[k]? = some y) : mBin oIx m1 m2 env st = .ok y st2 := by
  have hx : ∀ z, x ≠ .str z := fun z e => by rw [e] at hs; cases hs
  simp only [mBin, bnd, h, h2]
  have : oIx x (.int (k : Int)) st2 = some (y, st2) := by
    cases x with
    | str z => exact absurd rfl (hx z)
    | _ => simp only [oIx, hs, Option.bind_some, at_nat, hy, Option.map_some]
  rw [this]
  rfl
theorem seq_nx {A B : MS} {env env' : Sm.Env} {st st' : Hs} (h : A env st = .nx env' st') : sSeq A B env st = B env' st' := by
  unfold sSeq
  rw [h]
structure Form (sz : Nat) (nm : IV) (p : Int) (ms : List IV) (os : List Int) : Prop where
  nm : Nm nm
  p0 : 1 ≤ p
  p1 : p ≤ 6
  z0 : 1 ≤ sz
  z1 : sz ≤ 5
  ml : ms.length ≤ 12
  mv : ∀ m ∈ ms, Mv p sz m
  ol : os.length ≤ 3
  oa : os.Pairwise (· < ·)
  ob : ∀ o ∈ os, 0 ≤ o ∧ o < p
def fl (nm : IV) (p : Int) (ms : List IV) (os : List Int) : List IV := [nm, .int p, .tup ms, .tup (os.map .int)]
theorem ints_map : ∀ ys : List Int, intsOf (ys.map .int) = some ys
  | [] => rfl
  | y :: ys => by simp [intsOf, ints_map ys]
theorem pls_all : ∀ {xs : List IV}, (∀ x ∈ xs, plI x = true) → plIs xs = true
  | [], _ => rfl
  | y :: ys, h => Bool.and_eq_true_iff.mpr ⟨h y (by simp), pls_all fun x hx => h x (by simp [hx])⟩
theorem Nm.pl {v : IV} (h : Nm v) : plI v = true := by obtain ⟨cs, rfl, _⟩ := h; rfl
theorem Ix.pl {v : IV} {l : Int} (h : Ix v l) : plI v = true := by obtain ⟨i, rfl, _⟩ := h; rfl
theorem Mv.cl {p : Int} {sz : Nat} {m : IV} (h : Mv p sz m) : clI m = true := by
  rcases h with ⟨h, t, es, rfl, h1, h2, _, h3⟩ | ⟨h, n, t, rfl, h1, h2, h3⟩
  · have : clIs es = true := cls_all fun e he => (h3 e he).elim (fun q => by rw [q]; rfl) (fun q => q.cl)
    simp [clI, clIs, h1.cl, h2.cl, this]
  · simp [clI, clIs, h1.cl, h2.cl, h3.cl]
theorem Mv.pl {p : Int} {sz : Nat} {m : IV} (h : Mv p sz m) : plI m = true := by
  rcases h with ⟨h, t, es, rfl, h1, h2, _, h3⟩ | ⟨h, n, t, rfl, h1, h2, h3⟩
  · have : plIs es = true := pls_all fun e he => (h3 e he).elim (fun q => by rw [q]; rfl) (fun q => q.pl)
    simp [plI, plIs, h1.pl, h2.pl, this]
  · simp [plI, plIs, h1.pl, h2.pl, h3.pl]
theorem cls_ints : ∀ ns : List Int, clIs (ns.map IV.int) = true
  | [] => rfl
  | n :: ns => by simp [clIs, clI, cls_ints ns]
theorem pls_ints : ∀ ns : List Int, plIs (ns.map IV.int) = true
  | [] => rfl
  | n :: ns => by simp [plIs, plI, pls_ints ns]
section
variable {sz : Nat} {nm : IV} {p : Int} {ms : List IV} {os : List Int}
theorem Form.cms (h : Form sz nm p ms os) : clIs ms = true := cls_all fun m hm => (h.mv m hm).cl
theorem Form.pms (h : Form sz nm p ms os) : plIs ms = true := pls_all fun m hm => (h.mv m hm).pl
theorem Form.cl (h : Form sz nm p ms os) : clIs (fl nm p ms os) = true := by simp [fl, clIs, clI, h.nm.cl, h.cms, cls_ints]
theorem Form.pl (h : Form sz nm p ms os) : plIs (fl nm p ms os) = true := by simp [fl, plIs, plI, h.nm.pl, h.pms, pls_ints]
end
theorem clT {f : List IV → M IV} {xs : List IV} (c : clIs xs = true) (h : ∃ s, f xs [] = .ok (.bl true) s) (st : Hs) : runC f xs st = .ok (.bl true) st := runC_cl c rfl h
theorem all_T {i j : Nat} {m : ME} {env : Sm.Env} {ys : List IV} {st : Hs} (h1 : env[i]? = some (some (.tup ys))) (hb : ∀ y ∈ ys, ∀ st, m ((env.set j none).set j (some y)) st = .ok (.bl true) st) (hn : ys.length ≤ big) : ∃ st', mB bAll (maC (mLc (iTp (mVar i)) (gNm j) mtYes m [j]) maN) env st = .ok (.bl true) st' := by
  obtain ⟨l, e⟩ := goLc_seq (x := .tup ys) (ys := ys) (j := j) (m := m) (env := env.set j none) (F := fun _ => .bl true) (fun _ => True) (fun _ _ _ => trivial) (fun _ _ => rfl) (fun y hy st _ => ⟨[], by rw [List.append_nil]; exact hb y hy st⟩) hn st trivial
  have ea : (ys.map fun _ => IV.bl true) = (ys.map fun _ => true).map IV.bl := by rw [List.map_map]; rfl
  rw [ea] at e
  have et : (ys.map fun _ => true).all id = true := by simp
  generalize (ys.map fun _ => true) = bs at e et
  refine ⟨(st ++ l) ++ [.lst (bs.map .bl)], ?_⟩
  have h1' : mVar i env st = .ok (.tup ys) st := by simp only [mVar, h1]
  simp only [mB, maC, maN, mLc, iTp, bnd, h1', Src.n, wipeI, e, Sm.ret, bAll, seqOf, lstOf, ioL]
  simp only [List.getElem?_append_right (Nat.le_refl _), Nat.sub_self, List.getElem?_cons_zero, ioL, Option.bind_some, bls_map, Option.map_some, lf, et]
theorem callset : (("call" : Str) == "set") = false := by decide +kernel
theorem setcall : (("set" : Str) == "call") = false := by decide +kernel
theorem eqP_ss {st : Hs} {x z : Str} : eqP st (.str x) (.str z) = some (x == z) := rfl
theorem goSc_one {s : Src} {g : MG} {c : MT} {m : ME} {env : Sm.Env} {st : Hs} {y : Int} (fin : s.fin st = true)
    (hb : ∀ i, i < s.n → ∃ x env' b, s.item i st = some x ∧ g x env st = .ok env' st ∧ c env' st = .ok b st ∧ (b = true → m env' st = .ok (.int y) st)) :
    ∀ (k i : Nat) (acc : List Int), i + k = s.n → acc = [] ∨ acc = [y] → ∃ acc', goSc s g c m env k i acc st = .ok acc' st ∧ (acc' = [] ∨ acc' = [y])
  | 0, i, acc, ek, ha => ⟨acc, by unfold goSc; rw [if_pos fin], ha⟩
  | k + 1, i, acc, ek, ha => by
    obtain ⟨x, env', b, e1, e2, e3, e4⟩ := hb i (by omega)
    unfold goSc
    simp only [e1, e2, e3]
    cases b with
    | false => exact goSc_one fin hb k (i + 1) acc (by omega) ha
    | true =>
      simp only [e4 rfl]
      have hl : acc.length + 1 < 4096 := by rcases ha with rfl | rfl <;> simp
      rw [if_pos hl]
      refine goSc_one fin hb k (i + 1) _ (by omega) (.inr ?_)
      rcases ha with rfl | rfl
      · rfl
      · simp [insU]
theorem and_t {a b : ME} {env : Sm.Env} {st st1 : Hs} (h : a env st = .ok (.bl true) st1) : mAnd a b env st = b env st1 := by simp only [mAnd, bnd, h, asB, Sm.ret, if_true]
theorem isi_tup {m : ME} {env : Sm.Env} {st st1 : Hs} {xs : List IV} (h : m env st = .ok (.tup xs) st1) : mIsi "tuple" m env st = .ok (.bl true) st1 := by
  unfold mIsi bnd
  rw [h]
  rfl
def hereI : IV → Int
  | .tup (_ :: .int h :: _) => h
  | _ => -1
def ixs (ms : List IV) (q : Int) : List IV := ((List.range' 0 ms.length).filter fun i => (match ms[i]? with | some m => hereI m | none => -1) == q).map fun (i : Nat) => .int i
theorem Mv.here {p : Int} {sz : Nat} {m : IV} (h : Mv p sz m) : ∃ w r, m = .tup (w :: .int (hereI m) :: r) := by
  rcases h with ⟨h, t, es, rfl, ⟨i, rfl, _⟩, _⟩ | ⟨h, n, t, rfl, ⟨i, rfl, _⟩, _⟩ <;> exact ⟨_, _, rfl⟩
def ats (p : Int) (ms : List IV) : List IV := (List.range' 0 p.toNat).map fun (i : Nat) => .tup (ixs ms i)
abbrev NS : List Str := ["own_name", "own_points", "own_moves", "own_ends", "own_at", "own_shape"]
def PO (nm : IV) (p : Int) (ms : List IV) (os : List Int) : IV := .obj "Procedure" NS [nm, .int p, .tup ms, .tup (os.map .int), .tup (ats p ms), .tup (fl nm p ms os)]
theorem if_no {c : MT} {a : MS} {env : Sm.Env} {st st' : Hs} (h : c env st = .ok false st') : sIf c a sNx env st = .nx env st' := by
  unfold sIf sE
  rw [h]
  rfl
theorem mtB_ok {m : ME} {env : Sm.Env} {st st' : Hs} {b : Bool} (h : m env st = .ok (.bl b) st') : mtB m env st = .ok b st' := by
  simp only [mtB, bnd, h, asB, Sm.ret]
theorem mtNot_ok {c : MT} {env : Sm.Env} {st st' : Hs} {b : Bool} (h : c env st = .ok b st') : mtNot c env st = .ok (!b) st' := by
  simp only [mtNot, bnd, h, Sm.ret]
theorem mtOr_f {c d : MT} {env : Sm.Env} {st st1 : Hs} (h : c env st = .ok false st1) : mtOr c d env st = d env st1 := by
  simp only [mtOr, bnd, h]
  rfl
theorem ixs_cl (ms : List IV) (q : Int) : clIs (ixs ms q) = true := cls_all fun x hx => by
  obtain ⟨i, _, rfl⟩ := List.mem_map.mp hx
  rfl
theorem ixs_pl (ms : List IV) (q : Int) : plIs (ixs ms q) = true := pls_all fun x hx => by
  obtain ⟨i, _, rfl⟩ := List.mem_map.mp hx
  rfl
theorem ats_cl (p : Int) (ms : List IV) : clIs (ats p ms) = true := cls_all fun x hx => by
  obtain ⟨i, _, rfl⟩ := List.mem_map.mp hx
  exact ixs_cl ms i
theorem ats_pl (p : Int) (ms : List IV) : plIs (ats p ms) = true := pls_all fun x hx => by
  obtain ⟨i, _, rfl⟩ := List.mem_map.mp hx
  exact ixs_pl ms i
theorem mk_ev {c : Str} {f : List IV → M IV} {gI : List IV → List IV → List IV} {es ks : MA} {env : Sm.Env} {st st1 st2 : Hs} {xs ys : List IV} (h : es env st = .ok xs st1) (h2 : ks env st1 = .ok ys st2) : mMk c f gI es ks env st = runMk c f (gI xs ys) st2 := by
  simp only [mMk, bnd, h, h2]
def plD : Nat → IV → Bool
  | 0, _ => false
  | n + 1, x => match x with
    | .tup xs => xs.all (plD n)
    | .non => true
    | .bl _ => true
    | .int _ => true
    | .str _ => true
    | _ => false
theorem eqAll_pl {n : Nat} (h : ∀ x y, plD n x = true → plD n y = true → ∃ b, ∀ st, eqI st n x y = some b ∧ eqI st n y x = some b) : ∀ xs ys : List IV, (∀ x ∈ xs, plD n x = true) → (∀ y ∈ ys, plD n y = true) → ∃ b, ∀ st, eqAll (eqI st n) xs ys = some b ∧ eqAll (eqI st n) ys xs = some b
  | [], [], _, _ => ⟨true, fun st => ⟨rfl, rfl⟩⟩
  | [], _ :: _, _, _ => ⟨true, fun st => ⟨rfl, rfl⟩⟩
  | _ :: _, [], _, _ => ⟨true, fun st => ⟨rfl, rfl⟩⟩
  | x :: xs, y :: ys, hx, hy => by
    obtain ⟨a, ha⟩ := h x y (hx x (by simp)) (hy y (by simp))
    obtain ⟨b, hb⟩ := eqAll_pl h xs ys (fun z hz => hx z (by simp [hz])) (fun z hz => hy z (by simp [hz]))
    refine ⟨a && b, fun st => ?_⟩
    unfold eqAll
    simp only [(ha st).1, (ha st).2, (hb st).1, (hb st).2, and_self]
theorem eqI_tt {st : Hs} {n : Nat} {xs ys : List IV} : eqI st (n + 1) (.tup xs) (.tup ys) = (eqAll (eqI st n) xs ys).map fun b => b && xs.length == ys.length := rfl
theorem eqI_pl : ∀ (n : Nat) (x y : IV), plD n x = true → plD n y = true → ∃ b, ∀ st, eqI st n x y = some b ∧ eqI st n y x = some b
  | 0, x, y, h, _ => by cases h
  | n + 1, x, y, hx, hy => by
    cases x with
    | rl _ => cases hx
    | ref _ => cases hx
    | obj _ _ _ => cases hx
    | fd _ _ => cases hx
    | cls _ => cases hx
    | tup xs =>
      cases y with
      | rl _ => cases hy
      | ref _ => cases hy
      | obj _ _ _ => cases hy
      | fd _ _ => cases hy
      | cls _ => cases hy
      | tup ys =>
        have hx : xs.all (plD n) = true := hx
        have hy : ys.all (plD n) = true := hy
        obtain ⟨b, hb⟩ := eqAll_pl (eqI_pl n) xs ys (List.all_eq_true.mp hx) (List.all_eq_true.mp hy)
        refine ⟨b && xs.length == ys.length, fun st => ?_⟩
        rw [eqI_tt, eqI_tt, (hb st).1, (hb st).2]
        exact ⟨rfl, by rw [show (xs.length == ys.length) = (ys.length == xs.length) from BEq.comm]; rfl⟩
      | _ => exact ⟨false, fun st => ⟨rfl, rfl⟩⟩
    | non =>
      cases y with
      | rl _ => cases hy
      | ref _ => cases hy
      | obj _ _ _ => cases hy
      | fd _ _ => cases hy
      | cls _ => cases hy
      | non => exact ⟨true, fun st => ⟨rfl, rfl⟩⟩
      | _ => exact ⟨false, fun st => ⟨rfl, rfl⟩⟩
    | bl a =>
      cases y with
      | rl _ => cases hy
      | ref _ => cases hy
      | obj _ _ _ => cases hy
      | fd _ _ => cases hy
      | cls _ => cases hy
      | bl c => exact ⟨a == c, fun st => ⟨rfl, congrArg some BEq.comm⟩⟩
      | int j => exact ⟨(if a then 1 else 0) == j, fun st => ⟨rfl, congrArg some BEq.comm⟩⟩
      | _ => exact ⟨false, fun st => ⟨rfl, rfl⟩⟩
    | int i =>
      cases y with
      | rl _ => cases hy
      | ref _ => cases hy
      | obj _ _ _ => cases hy
      | fd _ _ => cases hy
      | cls _ => cases hy
      | bl c => exact ⟨i == (if c then 1 else 0), fun st => ⟨rfl, congrArg some BEq.comm⟩⟩
      | int j => exact ⟨i == j, fun st => ⟨rfl, congrArg some BEq.comm⟩⟩
      | _ => exact ⟨false, fun st => ⟨rfl, rfl⟩⟩
    | str a =>
      cases y with
      | rl _ => cases hy
      | ref _ => cases hy
      | obj _ _ _ => cases hy
      | fd _ _ => cases hy
      | cls _ => cases hy
      | str c => exact ⟨a == c, fun st => ⟨rfl, congrArg some BEq.comm⟩⟩
      | _ => exact ⟨false, fun st => ⟨rfl, rfl⟩⟩
theorem eqAll_rf {f : IV → IV → Option Bool} : ∀ xs : List IV, (∀ x ∈ xs, f x x = some true) → eqAll f xs xs = some true
  | [], _ => rfl
  | x :: xs, h => by
    unfold eqAll
    rw [h x (by simp), eqAll_rf xs fun y hy => h y (by simp [hy])]
    rfl
theorem eqI_rf {st : Hs} : ∀ (n : Nat) (x : IV), plD n x = true → eqI st n x x = some true
  | 0, x, h => by cases h
  | n + 1, x, h => by
    cases x with
    | rl _ => cases h
    | ref _ => cases h
    | obj _ _ _ => cases h
    | fd _ _ => cases h
    | cls _ => cases h
    | tup xs =>
      have h : xs.all (plD n) = true := h
      rw [eqI_tt, eqAll_rf (f := eqI st n) xs fun x hx => eqI_rf n x (List.all_eq_true.mp h x hx)]
      simp
    | non => rfl
    | bl a => cases a <;> rfl
    | int i => exact congrArg some (beq_self_eq_true i)
    | str a => exact congrArg some (beq_self_eq_true a)
theorem Nm.pd {v : IV} (h : Nm v) (n : Nat) : plD (n + 1) v = true := by obtain ⟨cs, rfl, _⟩ := h; rfl
theorem Ix.pd {v : IV} {l : Int} (h : Ix v l) (n : Nat) : plD (n + 1) v = true := by obtain ⟨i, rfl, _⟩ := h; rfl
theorem Mv.pd {p : Int} {sz : Nat} {m : IV} (h : Mv p sz m) (n : Nat) : plD (n + 3) m = true := by
  rcases h with ⟨h, t, es, rfl, h1, h2, _, h3⟩ | ⟨h, n, t, rfl, h1, h2, h3⟩
  · have : es.all (plD (n + 1)) = true := List.all_eq_true.mpr fun e he => (h3 e he).elim (fun q => by rw [q]; rfl) (fun q => q.pd n)
    have e1 : plD (n + 2) (.tup es) = true := this
    have e2 : plD (n + 2) (.str "set") = true := rfl
    show [IV.str "set", h, .tup es, t].all (plD (n + 2)) = true
    simp only [List.all_cons, List.all_nil, h1.pd (n + 1), h2.pd (n + 1), e1, e2, Bool.and_self]
  · show [IV.str "call", h, _, t].all (plD (_ + 2)) = true
    have e2 : ∀ n, plD (n + 2) (.str "call") = true := fun _ => rfl
    simp only [List.all_cons, List.all_nil, h1.pd (_ + 1), h2.pd (_ + 1), h3.pd (_ + 1), e2, Bool.and_self]
theorem Form.pd {sz : Nat} {nm : IV} {p : Int} {ms : List IV} {os : List Int} (h : Form sz nm p ms os) : ∀ x ∈ fl nm p ms os, plD 39 x = true := by
  have e1 : plD 39 (.tup ms) = true := List.all_eq_true.mpr fun m hm => (h.mv m hm).pd 35
  have e2 : plD 39 (.tup (os.map .int)) = true := List.all_eq_true.mpr fun m hm => by
    obtain ⟨o, _, rfl⟩ := List.mem_map.mp hm
    rfl
  intro x hx
  simp only [fl, List.mem_cons, List.not_mem_nil, or_false] at hx
  rcases hx with rfl | rfl | rfl | rfl
  · exact h.nm.pd 38
  · rfl
  · exact e1
  · exact e2
theorem Form.eq {sz sz' : Nat} {nm nm' : IV} {p p' : Int} {ms ms' : List IV} {os os' : List Int} (h : Form sz nm p ms os) (h' : Form sz' nm' p' ms' os') : ∃ b, ∀ st, eqAll (eqI st 39) (fl nm p ms os) (fl nm' p' ms' os') = some b ∧ eqAll (eqI st 39) (fl nm' p' ms' os') (fl nm p ms os) = some b := eqAll_pl (eqI_pl 39) _ _ h.pd h'.pd
theorem Form.rf {sz : Nat} {nm : IV} {p : Int} {ms : List IV} {os : List Int} (h : Form sz nm p ms os) (st : Hs) : eqAll (eqI st 39) (fl nm p ms os) (fl nm p ms os) = some true := eqAll_rf _ fun x hx => eqI_rf 39 x (h.pd x hx)
theorem eqI_refs {st : Hs} {i j : Nat} {xs ys : List IV} (h : st[i]? = some (.lst xs)) (h' : st[j]? = some (.lst ys)) (hl : xs.length = ys.length) : eqI st 40 (.ref i) (.ref j) = eqAll (eqI st 39) xs ys := by
  rw [eqI.eq_def]
  simp only [lstOf, h, h', ioL, if_pos hl]
theorem eqI_tups {st : Hs} {xs ys : List IV} (hl : xs.length = ys.length) : eqI st 40 (.tup xs) (.tup ys) = eqAll (eqI st 39) xs ys := by
  rw [eqI_tt, hl]
  cases eqAll (eqI st 39) xs ys <;> simp
section
variable {sz : Nat} {nm : IV} {p : Int} {ms : List IV} {os : List Int}
theorem Mv.up {p p' : Int} {sz : Nat} {m : IV} (h : Mv p sz m) (hp : p ≤ p') : Mv p' sz m := by
  have up : ∀ {v : IV}, Ix v p → Ix v p' := fun ⟨i, e, h0, h1⟩ => ⟨i, e, h0, by omega⟩
  rcases h with ⟨h, t, es, rfl, h1, h2, h3⟩ | ⟨h, n, t, rfl, h1, h2, h3⟩
  · exact .inl ⟨_, _, _, rfl, up h1, up h2, h3⟩
  · exact .inr ⟨_, _, _, rfl, up h1, h2, up h3⟩
end
structure Le (st st' : Hs) : Prop where
  le : st.length ≤ st'.length
  fr : ∀ i, i < st.length → st'[i]? = st[i]?
theorem Le.refl {st : Hs} : Le st st := ⟨Nat.le_refl _, fun _ _ => rfl⟩
theorem Le.trans {a b c : Hs} (h : Le a b) (g : Le b c) : Le a c := ⟨Nat.le_trans h.le g.le, fun i l => (g.fr i (Nat.lt_of_lt_of_le l h.le)).trans (h.fr i l)⟩
theorem Le.app {st l : Hs} : Le st (st ++ l) := ⟨by simp, fun i h => by rw [List.getElem?_append_left h]⟩
theorem Le.at {st st' : Hs} (h : Le st st') {i : Nat} {o : IO} (e : st[i]? = some o) : st'[i]? = some o := (h.fr i (List.getElem?_eq_some_iff.mp e).1).trans e
theorem seq_ex {A B : MS} {env env' : Sm.Env} {st : Hs} {P : Hs → Prop} (h : ∃ st', A env st = .nx env' st' ∧ P st') : ∃ st', P st' ∧ sSeq A B env st = B env' st' := by
  obtain ⟨st', e, p⟩ := h
  exact ⟨st', p, seq_nx e⟩
theorem if_yes {c : MT} {a b : MS} {env : Sm.Env} {st st' : Hs} (h : c env st = .ok true st') : sIf c a b env st = a env st' := by
  unfold sIf sE
  rw [h]
  rfl
theorem bin_ok {f : O2} {m1 m2 : ME} {env : Sm.Env} {st st1 st2 : Hs} {x y z : IV} (h : m1 env st = .ok x st1) (h2 : m2 env st1 = .ok y st2) {st3 : Hs} (h3 : f x y st2 = some (z, st3)) : mBin f m1 m2 env st = .ok z st3 := by
  simp only [mBin, bnd, h, h2, h3, lf]
theorem mIf_t {c : MT} {a b : ME} {env : Sm.Env} {st st' : Hs} (h : c env st = .ok true st') : mIf c a b env st = a env st' := by
  simp only [mIf, bnd, h, if_true]
theorem mIf_f {c : MT} {a b : ME} {env : Sm.Env} {st st' : Hs} (h : c env st = .ok false st') : mIf c a b env st = b env st' := by
  simp only [mIf, bnd, h, Bool.false_eq_true, if_false]
section
variable {sz L k : Nat} {st0 st : Hs} {E : Sm.Env} {es : MA} {nm : IV} {p : Int} {ms : List IV} {os : List Int}
end
theorem gTl_ok {n b : Nat} {gs : MGs} {env : Sm.Env} {st : Hs} {xs : List IV} (h : st[b]? = some (.lst xs)) (hl : xs.length = n) : gTl n gs (.ref b) env st = gs xs env st := by
  unfold gTl
  simp only [lstOf, h, ioL, if_pos hl]
theorem sl_ok {e : ME} {lo hi : Sm.Env → M (Option Int)} {env : Sm.Env} {st : Hs} {xs ys : List IV} {l h : Option Int} (h1 : e env st = .ok (.tup xs) st) (h2 : lo env st = .ok l st) (h3 : hi env st = .ok h st) (h4 : cutI xs l h = ys) : mSl e lo hi env st = .ok (.tup ys) st := by
  simp only [mSl, bnd, h1, h2, h3, oSl, h4, lf]
theorem b_ok {f : On} {es : MA} {env : Sm.Env} {st st1 st2 : Hs} {xs : List IV} {z : IV} (h : es env st = .ok xs st1) (h2 : f xs st1 = some (z, st2)) : mB f es env st = .ok z st2 := by
  simp only [mB, bnd, h, h2, lf]
section
variable {sz : Nat} {nm : IV} {p : Int} {ms : List IV} {os : List Int}
theorem Form.pocl (h : Form sz nm p ms os) : clI (PO nm p ms os) = true := by
  simp [PO, clI, clIs, h.nm.cl, h.cms, cls_ints, ats_cl, h.cl]
end
theorem def_rt {n : Nat} {m : ME} {xs : List IV} {st st' : Hs} {v : IV} (h : m (xs.map some ++ List.replicate (n - xs.length) none) st = .ok v st') : mDef n (sRet m) xs st = .ok v st' := by
  unfold mDef
  rw [rt_ok h]
  rfl
theorem prp_ok {alts : Alts} {e : ME} {env : Sm.Env} {st : Hs} {c : Str} {ns : List Str} {xs : List IV} {f : List IV → M IV} {v : IV} (h : e env st = .ok (.obj c ns xs) st) (ha : alts.lookup c = some f) (hf : runC f [.obj c ns xs] st = .ok v st) : mPrp alts e env st = .ok v st := by
  simp only [mPrp, bnd, h, insOf, ha, hf]
theorem met_ok {alts : Alts} {m : Str} {o : ME} {es : MA} {env : Sm.Env} {st st' : Hs} {c : Str} {ns : List Str} {xs ys : List IV} {f : List IV → M IV} {r : Rs IV} (h : o env st = .ok (.obj c ns xs) st) (ha : alts.lookup c = some f) (hm : m ∉ ns) (he : es env st = .ok ys st') (hf : runC f (.obj c ns xs :: ys) st' = r) : mMet alts m o es env st = r := by
  simp only [mMet, bnd, h, insOf, ha, if_neg hm, he, hf]
section
variable {sz : Nat} {nm : IV} {p : Int} {ms : List IV} {os : List Int}
theorem tyPO (st : Hs) : tyOf st (PO nm p ms os) = some (.own "Procedure") := rfl
theorem own_ok (al : Alts) {st : Hs} {f : List IV → M IV} {v : IV} (ha : List.lookup ("Procedure" : Str) al = some f) (hf : runC f [PO nm p ms os] st = .ok v st) : ownC al (PO nm p ms os) st = some (v, st) := by
  simp only [ownC, tyPO, ha, hf]
end
theorem ats_get {p : Int} {ms : List IV} {k : Nat} (hk : (k : Int) < p) : (ats p ms)[k]? = some (.tup (ixs ms k)) := by
  have : k < p.toNat := by omega
  simp [ats, this]
section
variable {sz sz' : Nat} {nm nm' : IV} {p p' : Int} {ms ms' : List IV} {os os' : List Int}
theorem and_f {a b : ME} {env : Sm.Env} {st st1 : Hs} (h : a env st = .ok (.bl false) st1) : mAnd a b env st = .ok (.bl false) st1 := by simp only [mAnd, bnd, h, asB, Sm.ret, Bool.false_eq_true, if_false]
end

def Dat (w h k : Nat) (v : IV) : Prop := ∃ d, (∀ st, toD st k v = some d) ∧ d.canLay0 = true ∧ d.depth ≤ h ∧ d.weight ≤ w ∧ d.intsShort 13 = true ∧ d.showable = true ∧ d.hasDict = false
def DatA (w h k : Nat) (vs : List IV) : Prop := ∃ ds, (∀ st, toDs (toD st k) vs = some ds) ∧ PyData.canLayAll0 ds = true ∧ PyData.depthAll ds ≤ h ∧ PyData.weightAll ds ≤ (w + 1) * vs.length ∧ PyData.intsShortAll 13 ds = true ∧ PyData.showableAll ds = true ∧ PyData.hasDictAll ds = false
theorem dat_all {w h k : Nat} : ∀ vs : List IV, (∀ v ∈ vs, Dat w h k v) → DatA w h k vs
  | [], _ => ⟨[], fun _ => rfl, rfl, Nat.zero_le _, Nat.zero_le _, rfl, rfl, rfl⟩
  | v :: vs, hv => by
    obtain ⟨d, a1, a2, a3, a4, a5, a6, a7⟩ := hv v (by simp)
    obtain ⟨ds, b1, b2, b3, b4, b5, b6, b7⟩ := dat_all vs fun w hw => hv w (by simp [hw])
    refine ⟨d :: ds, fun st => ?_, ?_, ?_, ?_, ?_, ?_, ?_⟩
    · simp [toDs, a1 st, b1 st]
    · show (d.canLay0 && PyData.canLayAll0 ds) = true
      rw [a2, b2]; rfl
    · show max d.depth (PyData.depthAll ds) ≤ h
      omega
    · show d.weight + 1 + PyData.weightAll ds ≤ _
      rw [List.length_cons, Nat.mul_succ]
      omega
    · show (d.intsShort 13 && PyData.intsShortAll 13 ds) = true
      rw [a5, b5]; rfl
    · show (d.showable && PyData.showableAll ds) = true
      rw [a6, b6]; rfl
    · show (d.hasDict || PyData.hasDictAll ds) = false
      rw [a7, b7]; rfl
theorem dat_tup {w h k n : Nat} {vs : List IV} (hv : ∀ v ∈ vs, Dat w h k v) (hn : vs.length ≤ n) : Dat ((w + 1) * n) (h + 1) (k + 1) (.tup vs) := by
  obtain ⟨ds, b1, b2, b3, b4, b5, b6, b7⟩ := dat_all vs hv
  refine ⟨.tuple ds, fun st => ?_, b2, ?_, ?_, b5, b6, b7⟩
  · show (toDs (toD st k) vs).map PyData.tuple = _
    rw [b1 st]; rfl
  · show PyData.depthAll ds + 1 ≤ h + 1
    omega
  · exact Nat.le_trans (show PyData.weightAll ds ≤ _ from b4) (Nat.mul_le_mul_left _ hn)
theorem Dat.mono {w w' h h' k : Nat} {v : IV} (d : Dat w h k v) (hw : w ≤ w') (hh : h ≤ h') : Dat w' h' k v := by
  obtain ⟨x, a1, a2, a3, a4, a5⟩ := d
  exact ⟨x, a1, a2, Nat.le_trans a3 hh, Nat.le_trans a4 hw, a5⟩
theorem small_shown : ∀ k : Fin 13, (PyData.shown (.int (k.val : Int))).length ≤ 13 ∧ PyData.weight (.int (k.val : Int)) ≤ 8 ∧ PyData.showable (.int (k.val : Int)) = true := by decide +kernel
theorem Nm.dat {v : IV} (h : Nm v) (k : Nat) : Dat 8 0 (k + 1) v := by
  obtain ⟨cs, rfl, h0, h1, h2⟩ := h
  refine ⟨.str ⟨cs.toArray⟩, fun _ => rfl, ?_, Nat.le_refl _, ?_, rfl, rfl, rfl⟩
  · show PyData.strOk _ = true
    unfold PyData.strOk
    simp only [List.all_toArray, List.all_eq_true, decide_eq_true_eq]
    intro c hc
    have hL : ∀ c ∈ LET.cps.toList, c < 0x110000 := by decide +kernel
    exact hL c (h2 c hc)
  · show (cs.toArray).size ≤ 8
    simpa using h1
theorem Ix.dat {v : IV} {l : Int} (h : Ix v l) (hl : l ≤ 13) (k : Nat) : Dat 8 0 (k + 1) v := by
  obtain ⟨i, rfl, h0, h1⟩ := h
  obtain ⟨n, rfl⟩ := Int.eq_ofNat_of_zero_le h0
  have := small_shown ⟨n, by omega⟩
  exact ⟨.int n, fun _ => rfl, rfl, Nat.le_refl _, this.2.1, decide_eq_true this.1, this.2.2, rfl⟩
theorem non_dat (k : Nat) : Dat 8 0 (k + 1) .non := ⟨.none, fun _ => rfl, rfl, Nat.le_refl _, by decide, rfl, rfl, rfl⟩
theorem nm_set : Nm (.str "set") := nm_of (by decide +kernel)
theorem nm_call : Nm (.str "call") := nm_of (by decide +kernel)
theorem Mv.dat {p : Int} {sz : Nat} {m : IV} (h : Mv p sz m) (hp : p ≤ 6) (hz : sz ≤ 5) (k : Nat) : Dat 184 2 (k + 3) m := by
  rcases h with ⟨h, t, es, rfl, h1, h2, hl, h3⟩ | ⟨h, n, t, rfl, h1, h2, h3⟩
  · have r : Dat 45 1 (k + 2) (.tup es) := dat_tup (w := 8) (h := 0) (k := k + 1) (n := 5) (fun e he => (h3 e he).elim (fun q => by rw [q]; exact non_dat k) (fun q => q.dat (by omega) k)) (by omega)
    refine dat_tup (w := 45) (h := 1) (k := k + 2) (n := 4) (fun e he => ?_) (by simp)
    simp only [List.mem_cons, List.not_mem_nil, or_false] at he
    rcases he with rfl | rfl | rfl | rfl
    · exact (nm_set.dat (k + 1)).mono (by decide) (by decide)
    · exact (h1.dat (by omega) (k + 1)).mono (by decide) (by decide)
    · exact r
    · exact (h2.dat (by omega) (k + 1)).mono (by decide) (by decide)
  · refine dat_tup (w := 45) (h := 1) (k := k + 2) (n := 4) (fun e he => ?_) (by simp)
    simp only [List.mem_cons, List.not_mem_nil, or_false] at he
    rcases he with rfl | rfl | rfl | rfl
    · exact (nm_call.dat (k + 1)).mono (by decide) (by decide)
    · exact (h1.dat (by omega) (k + 1)).mono (by decide) (by decide)
    · exact (h2.dat (k + 1)).mono (by decide) (by decide)
    · exact (h3.dat (by omega) (k + 1)).mono (by decide) (by decide)
theorem Form.dat {sz : Nat} {nm : IV} {p : Int} {ms : List IV} {os : List Int} (h : Form sz nm p ms os) : ∀ v ∈ fl nm p ms os, Dat 2220 3 39 v := by
  have hp := h.p1
  have hp0 := h.p0
  intro v hv
  simp only [fl, List.mem_cons, List.not_mem_nil, or_false] at hv
  rcases hv with rfl | rfl | rfl | rfl
  · exact (h.nm.dat 38).mono (by decide) (by decide)
  · exact (Ix.dat (l := 7) ⟨p, rfl, by omega, by omega⟩ (by decide) 38).mono (by decide) (by decide)
  · exact dat_tup (w := 184) (h := 2) (k := 38) (n := 12) (fun m hm => (h.mv m hm).dat hp h.z1 35) h.ml
  · refine (dat_tup (w := 8) (h := 0) (k := 38) (n := 3) (fun o ho => ?_) (by simpa using h.ol)).mono (by decide) (by decide)
    obtain ⟨i, hi, rfl⟩ := List.mem_map.mp ho
    have := h.ob i hi
    exact Ix.dat (l := 7) ⟨i, rfl, by omega, by omega⟩ (by decide) 37
theorem repr_lst {sz : Nat} {nm : IV} {p : Int} {ms : List IV} {os : List Int} (h : Form sz nm p ms os) : ∃ z, ∀ (st : Hs) (T : Nat), st[T]? = some (.lst (fl nm p ms os)) → bRepr [.ref T] st = some (.str z, st) := by
  obtain ⟨ds, b1, b2, b3, b4, b5, b6, b7⟩ := dat_all _ h.dat
  have lay : PyData.layable0 (.list ds) = true := by
    show (PyData.canLayAll0 ds && decide (PyData.depthAll ds + 1 ≤ 64) && decide (PyData.weightAll ds ≤ 2 ^ 20)) = true
    have w : PyData.weightAll ds ≤ 2 ^ 20 := Nat.le_trans b4 (show (2220 + 1) * 4 ≤ 2 ^ 20 by decide)
    have dd : PyData.depthAll ds + 1 ≤ 64 := by omega
    rw [b2, decide_eq_true w, decide_eq_true dd]; rfl
  have sh := PyProof.Rows.shown_le13 lay (show PyData.intsShort 13 (.list ds) = true from b5)
  refine ⟨PyData.shown (.list ds), fun st T hT => ?_⟩
  have e1 : toD st 40 (.ref T) = some (.list ds) := by
    show (ioL st[T]?).bind (fun xs => (toDs (toD st 39) xs).map PyData.list) = _
    rw [hT]
    show (toDs (toD st 39) _).map PyData.list = _
    rw [b1 st]; rfl
  unfold bRepr
  dsimp only
  rw [e1, Option.bind_some, if_pos]
  have c2 : PyData.showable (.list ds) = true := b6
  have c3 : PyData.hasDict (.list ds) = false := b7
  have c4 : (PyData.shown (.list ds)).length ≤ big := Nat.le_trans sh (by decide)
  simp [isSeqD, c2, c3, c4]
theorem repr_tup {vs : List IV} (hv : ∀ v ∈ vs, Dat 8 0 39 v) (hl : vs.length ≤ 100) : ∃ z, ∀ st : Hs, bRepr [.tup vs] st = some (.str z, st) := by
  obtain ⟨ds, b1, b2, b3, b4, b5, b6, b7⟩ := dat_all vs hv
  have lay : PyData.layable0 (.tuple ds) = true := by
    show (PyData.canLayAll0 ds && decide (PyData.depthAll ds + 1 ≤ 64) && decide (PyData.weightAll ds ≤ 2 ^ 20)) = true
    have w : PyData.weightAll ds ≤ 2 ^ 20 := Nat.le_trans b4 (Nat.le_trans (Nat.mul_le_mul_left _ hl) (by decide))
    have dd : PyData.depthAll ds + 1 ≤ 64 := by omega
    rw [b2, decide_eq_true w, decide_eq_true dd]; rfl
  have sh := PyProof.Rows.shown_le13 lay (show PyData.intsShort 13 (.tuple ds) = true from b5)
  refine ⟨PyData.shown (.tuple ds), fun st => ?_⟩
  have e1 : toD st 40 (.tup vs) = some (.tuple ds) := by
    show (toDs (toD st 39) vs).map PyData.tuple = _
    rw [b1 st]; rfl
  unfold bRepr
  dsimp only
  rw [e1, Option.bind_some, if_pos]
  have c2 : PyData.showable (.tuple ds) = true := b6
  have c3 : PyData.hasDict (.tuple ds) = false := b7
  have c4 : (PyData.shown (.tuple ds)).length ≤ big := Nat.le_trans sh (by decide)
  simp [isSeqD, c2, c3, c4]
theorem ixs_dat {ms : List IV} {q : Int} (hm : ms.length ≤ 12) : (∀ v ∈ ixs ms q, Dat 8 0 39 v) ∧ (ixs ms q).length ≤ 100 := by
  refine ⟨fun v hv => ?_, ?_⟩
  · obtain ⟨i, hi, rfl⟩ := List.mem_map.mp hv
    have := (List.mem_filter.mp hi).1
    simp at this
    exact Ix.dat (l := 13) ⟨i, rfl, by omega, by omega⟩ (by decide) 38
  · unfold ixs
    rw [List.length_map]
    exact Nat.le_trans (List.length_filter_le _ _) (by simp; omega)
theorem slen (a b : Str) : (a ++ b).length = a.length + b.length := by
  show (a.cps ++ b.cps).size = _
  rw [Array.size_append]
  rfl
theorem sempty (a : Str) : Str.empty ++ a = a := by
  show (⟨#[] ++ a.cps⟩ : Str) = a
  simp
theorem small_str : ∀ k : Fin 13, (Str.ofString (toString (k.val : Int))).length ≤ 2 ∧ (k.val : Int).natAbs.log2 < 1920 := by decide +kernel
theorem int_str {i : Int} (h0 : 0 ≤ i) (h1 : i < 13) : (Str.ofString (toString i)).length ≤ 2 ∧ i.natAbs.log2 < 1920 := by
  obtain ⟨n, rfl⟩ := Int.eq_ofNat_of_zero_le h0
  exact small_str ⟨n, by omega⟩
section
variable {sz : Nat} {nm : IV} {p : Int} {ms : List IV} {os : List Int} {a b : Nat} {st : Hs}
theorem addS {x y : Str} (h : (x ++ y).length ≤ big) : oAdd (.str x) (.str y) st = some (.str (x ++ y), st) := by
  unfold oAdd
  dsimp only
  rw [slen] at h
  rw [if_pos h]
theorem goJs_ok {m : ME} {ms' : List ME} {acc y : Str} {env : Sm.Env} {st st1 : Hs} (h : m env st = .ok (.str y) st1) (hl : (acc ++ y).length ≤ big) : goJs (m :: ms') acc env st = goJs ms' (acc ++ y) env st1 := by
  show bnd (m env) _ st = _
  unfold bnd
  rw [h]
  dsimp only
  rw [if_pos hl]
theorem fmtS {m : ME} {env : Sm.Env} {st st1 : Hs} {z : Str} (h : m env st = .ok (.str z) st1) (hz : z.length ≤ big) : mFmt m env st = .ok (.str z) st1 := by
  unfold mFmt bnd
  rw [h]
  dsimp only
  rw [if_pos hz]
theorem fmtI {m : ME} {env : Sm.Env} {st st1 : Hs} {i : Int} (h : m env st = .ok (.int i) st1) (hz : i.natAbs.log2 < 1920) : mFmt m env st = .ok (.str (Str.ofString (toString i))) st1 := by
  unfold mFmt bnd
  rw [h]
  dsimp only
  rw [if_pos hz]
end

theorem for_step {s : Src} {g : MG} {B : MS} {k i : Nat} {env env' env2 : Sm.Env} {st st' st2 : Hs} {x : IV} (h1 : s.item i st = some x) (h2 : g x env st = .ok env' st') (h3 : B env' st' = .nx env2 st2) : goFor s g B (k + 1) i env st = goFor s g B k (i + 1) env2 st2 := by
  rw [goFor]
  simp only [h1, h2, h3]
theorem for_end {s : Src} {g : MG} {B : MS} {i : Nat} {env : Sm.Env} {st : Hs} (h : s.fin st = true) : goFor s g B 0 i env st = .nx env st := by
  rw [goFor]
  rw [if_pos h]
theorem for_run {mi : MI} {g : MG} {B : MS} {s : Src} {env : Sm.Env} {st st1 : Hs} (h : mi env st = .ok s st1) : sFor mi g B env st = goFor s g B s.n 0 env st1 := by
  simp only [sFor, sE, h]
section
variable {sz : Nat} {nm : IV} {p : Int} {ms : List IV} {os : List Int} {a b : Nat} {T X : Option IV}
end
theorem for_seq {x : IV} {ys : List IV} {j : Nat} {B : MS} {st : Hs} {F : Option IV → Sm.Env} (hs : seqOf st x = some ys) (hF : ∀ o y, (F o).set j (some y) = F (some y)) (hB : ∀ y ∈ ys, B (F (some y)) st = .nx (F (some y)) st) : ∀ (k i : Nat) (o : Option IV), i + k = ys.length → ∃ o', goFor (.seq x ys.length) (gNm j) B k i (F o) st = .nx (F o') st
  | 0, i, o, ek => ⟨o, for_end (by simp [Src.fin, hs])⟩
  | k + 1, i, o, ek => by
    have hi : i < ys.length := by omega
    obtain ⟨o', e⟩ := for_seq hs hF hB k (i + 1) (some ys[i]) (by omega)
    refine ⟨o', ?_⟩
    exact (for_step (x := ys[i]) (env' := F (some ys[i])) (by simp only [Src.item, hs, Option.bind_some, if_true, List.getElem?_eq_getElem hi]) (by simp only [gNm, Sm.ret, hF]) (hB _ (List.getElem_mem hi))).trans e
section
variable {sz : Nat} {nm : IV} {p : Int} {ms : List IV} {os : List Int} {a b : Nat} {T X x10 x11 : Option IV}
theorem none_filt {E : Sm.Env} {c : MT} {W : Nat} {ws : List IV} {st : Hs} (hE : E[13]? = some (some (.ref W))) (hW : st[W]? = some (.lst ws)) (hl : ws.length ≤ 30) (hc : ∀ y ∈ ws, c ((E.set 14 none).set 14 (some y)) st = .ok false st) : mLc (iLs (mVar 13)) (gNm 14) c (mVar 14) [14] E st = .ok (.ref st.length) (st ++ [.lst []]) := by
  have hs : seqOf st (.ref W) = some ws := by simp only [seqOf, lstOf, hW, ioL]
  have e := goLc_filt (s := .seq (.ref W) ws.length) (g := gNm 14) (c := c) (m := mVar 14) (env := E.set 14 none) (B := fun _ => false) (F := fun _ => .non) (st := st) (by simp [Src.fin, hs]) (fun i hi => by
    have hi : i < ws.length := hi
    exact ⟨ws[i], _, by simp [Src.item, hs, hi], rfl, hc _ (List.getElem_mem hi), fun q => by cases q⟩) ws.length 0 [] (Nat.zero_add _) (Nat.le_trans hl (by decide)) (Nat.le_refl _)
  have ef : (List.range' 0 ws.length).filter (fun _ => false) = [] := by simp
  rw [ef] at e
  exact lc_ok (s := .seq (.ref W) ws.length) (show iLs (mVar 13) E st = .ok (.seq (.ref W) ws.length) st by simp only [iLs, bnd, v_ok hE, lstOf, hW, ioL]) e
theorem ne_nil (st : Hs) : oNe (.ref st.length) (.ref (st ++ [IO.lst []]).length) ((st ++ [IO.lst []]) ++ [.lst []]) = some (.bl false, (st ++ [IO.lst []]) ++ [.lst []]) := by
  have e := eqI_lst0 (st := (st ++ [IO.lst []]) ++ [.lst []]) (a := st.length) (b := (st ++ [IO.lst []]).length) (xs := []) (by simp [ioL]) (by simp [ioL])
  unfold oNe
  rw [e]
  rfl
end
theorem pow60 (st : Hs) : oPow (.int 10) (.int 60) st = some (.int (10 ^ 60), st) := by kernel_rfl
theorem pow540 (st : Hs) : oPow (.int (10 ^ 60)) (.int 9) st = some (.int (10 ^ 540), st) := by kernel_rfl
theorem pow17 (st : Hs) : oPow (.int 10) (.int 17) st = some (.int 100000000000000000, st) := by kernel_rfl
def okB : RS → Option Bool
  | .rt (.bl b) _ => some b
  | _ => none
theorem okB_true {r : RS} (h : ∃ v, okB r = some v ∧ v = true) : ∃ st, endR r = .ok (.bl true) st := by
  obtain ⟨v, e, rfl⟩ := h
  cases r with
  | rt x st =>
    cases x with
    | bl b => cases e; exact ⟨st, rfl⟩
    | _ => cases e
  | _ => cases e
end Sm

set_option Elab.async false
set_option linter.all false
set_option maxRecDepth 100000
set_option maxHeartbeats 4000000
namespace Sm
open L2 PySem PySem.Spec
/-! ### plain data without bools: == and "may be one thing" are equality -/
def plE : Nat → IV → Bool
  | 0, _ => false
  | n + 1, x => match x with
    | .tup xs => xs.all (plE n)
    | .non => true
    | .int _ => true
    | .str _ => true
    | _ => false
theorem eqAll_ple {n : Nat} (h : ∀ x y, plE n x = true → plE n y = true → ∃ b, (∀ st, eqI st n x y = some b) ∧ (b = true ↔ x = y)) : ∀ xs ys : List IV, (∀ x ∈ xs, plE n x = true) → (∀ y ∈ ys, plE n y = true) → ∃ b, (∀ st, eqAll (eqI st n) xs ys = some b) ∧ ((b && xs.length == ys.length) = true ↔ xs = ys)
  | [], [], _, _ => ⟨true, fun st => rfl, by simp⟩
  | [], _ :: _, _, _ => ⟨true, fun st => rfl, by simp⟩
  | _ :: _, [], _, _ => ⟨true, fun st => rfl, by simp⟩
  | x :: xs, y :: ys, hx, hy => by
    obtain ⟨a, ha, ea⟩ := h x y (hx x (by simp)) (hy y (by simp))
    obtain ⟨b, hb, eb⟩ := eqAll_ple h xs ys (fun z hz => hx z (by simp [hz])) (fun z hz => hy z (by simp [hz]))
    refine ⟨a && b, fun st => ?_, ?_⟩
    · unfold eqAll
      simp only [ha st, hb st]
    · rw [List.cons.injEq, ← ea, ← eb]
      simp [Bool.and_eq_true, and_assoc]
theorem eqI_ple : ∀ (n : Nat) (x y : IV), plE n x = true → plE n y = true → ∃ b, (∀ st, eqI st n x y = some b) ∧ (b = true ↔ x = y)
  | 0, x, y, h, _ => by cases h
  | n + 1, x, y, hx, hy => by
    cases x with
    | rl _ => cases hx
    | ref _ => cases hx
    | obj _ _ _ => cases hx
    | fd _ _ => cases hx
    | cls _ => cases hx
    | bl _ => cases hx
    | tup xs =>
      cases y with
      | rl _ => cases hy
      | ref _ => cases hy
      | obj _ _ _ => cases hy
      | fd _ _ => cases hy
      | cls _ => cases hy
      | bl _ => cases hy
      | tup ys =>
        have hx : xs.all (plE n) = true := hx
        have hy : ys.all (plE n) = true := hy
        obtain ⟨b, hb, eb⟩ := eqAll_ple (eqI_ple n) xs ys (List.all_eq_true.mp hx) (List.all_eq_true.mp hy)
        refine ⟨b && xs.length == ys.length, fun st => ?_, by rw [eb]; simp⟩
        rw [eqI_tt, hb st]
        rfl
      | _ => exact ⟨false, fun st => rfl, by simp⟩
    | non =>
      cases y with
      | rl _ => cases hy
      | ref _ => cases hy
      | obj _ _ _ => cases hy
      | fd _ _ => cases hy
      | cls _ => cases hy
      | bl _ => cases hy
      | non => exact ⟨true, fun st => rfl, by simp⟩
      | _ => exact ⟨false, fun st => rfl, by simp⟩
    | int i =>
      cases y with
      | rl _ => cases hy
      | ref _ => cases hy
      | obj _ _ _ => cases hy
      | fd _ _ => cases hy
      | cls _ => cases hy
      | bl _ => cases hy
      | int j => exact ⟨i == j, fun st => rfl, by simp⟩
      | _ => exact ⟨false, fun st => rfl, by simp⟩
    | str a =>
      cases y with
      | rl _ => cases hy
      | ref _ => cases hy
      | obj _ _ _ => cases hy
      | fd _ _ => cases hy
      | cls _ => cases hy
      | bl _ => cases hy
      | str c => exact ⟨a == c, fun st => rfl, by simp⟩
      | _ => exact ⟨false, fun st => rfl, by simp⟩
theorem simAll_ple {n : Nat} (h : ∀ x y, plE n x = true → plE n y = true → simB n x y = true → x = y) : ∀ xs ys : List IV, (∀ x ∈ xs, plE n x = true) → (∀ y ∈ ys, plE n y = true) → simAll (simB n) xs ys = true → xs = ys
  | [], [], _, _, _ => rfl
  | [], _ :: _, _, _, q => by cases q
  | _ :: _, [], _, _, q => by cases q
  | x :: xs, y :: ys, hx, hy, q => by
    have q : (simB n x y && simAll (simB n) xs ys) = true := q
    rw [Bool.and_eq_true] at q
    rw [h x y (hx x (by simp)) (hy y (by simp)) q.1, simAll_ple h xs ys (fun z hz => hx z (by simp [hz])) (fun z hz => hy z (by simp [hz])) q.2]
theorem simB_ple : ∀ (n : Nat) (x y : IV), plE n x = true → plE n y = true → simB n x y = true → x = y
  | 0, x, y, h, _, _ => by cases h
  | n + 1, x, y, hx, hy, q => by
    cases x with
    | rl _ => cases hx
    | ref _ => cases hx
    | obj _ _ _ => cases hx
    | fd _ _ => cases hx
    | cls _ => cases hx
    | bl _ => cases hx
    | tup xs =>
      cases y with
      | tup ys =>
        have hx : xs.all (plE n) = true := hx
        have hy : ys.all (plE n) = true := hy
        rw [simAll_ple (simB_ple n) xs ys (List.all_eq_true.mp hx) (List.all_eq_true.mp hy) q]
      | _ => cases q
    | non =>
      cases y with
      | non => rfl
      | _ => cases q
    | int i =>
      cases y with
      | int j => rw [beq_iff_eq.mp (show (i == j) = true from q)]
      | _ => cases q
    | str a =>
      cases y with
      | str c => rw [beq_iff_eq.mp (show (a == c) = true from q)]
      | _ => cases q
theorem Nm.pe {v : IV} (h : Nm v) (n : Nat) : plE (n + 1) v = true := by obtain ⟨cs, rfl, _⟩ := h; rfl
theorem Ix.pe {v : IV} {l : Int} (h : Ix v l) (n : Nat) : plE (n + 1) v = true := by obtain ⟨i, rfl, _⟩ := h; rfl
theorem Mv.pe {p : Int} {sz : Nat} {m : IV} (h : Mv p sz m) (n : Nat) : plE (n + 3) m = true := by
  rcases h with ⟨h, t, es, rfl, h1, h2, _, h3⟩ | ⟨h, n, t, rfl, h1, h2, h3⟩
  · have : es.all (plE (n + 1)) = true := List.all_eq_true.mpr fun e he => (h3 e he).elim (fun q => by rw [q]; rfl) (fun q => q.pe n)
    have e1 : plE (n + 2) (.tup es) = true := this
    have e2 : plE (n + 2) (.str "set") = true := rfl
    show [IV.str "set", h, .tup es, t].all (plE (n + 2)) = true
    simp only [List.all_cons, List.all_nil, h1.pe (n + 1), h2.pe (n + 1), e1, e2, Bool.and_self]
  · show [IV.str "call", h, _, t].all (plE (_ + 2)) = true
    have e2 : ∀ n, plE (n + 2) (.str "call") = true := fun _ => rfl
    simp only [List.all_cons, List.all_nil, h1.pe (_ + 1), h2.pe (_ + 1), h3.pe (_ + 1), e2, Bool.and_self]
theorem ints_pe (n : Nat) (os : List Int) : plE (n + 2) (.tup (os.map .int)) = true := List.all_eq_true.mpr fun m hm => by
  obtain ⟨o, _, rfl⟩ := List.mem_map.mp hm
  rfl
theorem Form.pe {sz : Nat} {nm : IV} {p : Int} {ms : List IV} {os : List Int} (h : Form sz nm p ms os) (n : Nat) : ∀ x ∈ fl nm p ms os, plE (n + 4) x = true := by
  have e1 : plE (n + 4) (.tup ms) = true := List.all_eq_true.mpr fun m hm => (h.mv m hm).pe n
  intro x hx
  simp only [fl, List.mem_cons, List.not_mem_nil, or_false] at hx
  rcases hx with rfl | rfl | rfl | rfl
  · exact h.nm.pe (n + 3)
  · rfl
  · exact e1
  · exact ints_pe (n + 2) os
theorem ints_inj {a b : List Int} (h : a.map IV.int = b.map IV.int) : a = b := (List.map_inj_right (fun x y e => by cases e; rfl)).mp h
/-! ### procedures and programs by values -/
structure Pd where
  nm : Str
  p : Int
  ms : List IV
  os : List Int
def Pd.fl (q : Pd) : List IV := Sm.fl (.str q.nm) q.p q.ms q.os
def Pd.obj (q : Pd) : IV := PO (.str q.nm) q.p q.ms q.os
theorem Pd.fl_inj {q r : Pd} (h : q.fl = r.fl) : q = r := by
  cases q; cases r
  simp only [Pd.fl, Sm.fl, List.cons.injEq, IV.str.injEq, IV.int.injEq, IV.tup.injEq, and_true] at h
  obtain ⟨rfl, rfl, rfl, e⟩ := h
  rw [ints_inj e]
structure Pg where
  sz : Nat
  fs : List Int
  ps : List Pd
abbrev NSG : List Str := ["own_size", "own_starts", "own_procedures", "own_table", "own_main", "own_kept", "own_shape"]
namespace Pg
def objs (g : Pg) : List IV := g.ps.map Pd.obj
def names (g : Pg) : List Str := g.ps.map Pd.nm
def fsI (g : Pg) : IV := .tup (g.fs.map .int)
def shape (g : Pg) : List IV := [.int g.sz, g.fsI, .tup g.objs]
def keys (g : Pg) : List L2.Key := g.ps.map fun q => .inr q.nm
def main (g : Pg) : Str := match g.ps with
  | q :: _ => q.nm
  | [] => Str.empty
def fields (g : Pg) : List IV := [.int g.sz, g.fsI, .tup g.objs, .fd g.keys g.objs, .str g.main, .fd [] [], .tup g.shape]
def obj (g : Pg) : IV := .obj "Program" NSG g.fields
end Pg
def CallIn (names : List Str) (m : IV) : Prop := ∀ h n t, m = .tup [.str "call", h, .str n, t] → n ∈ names
structure PgOk (g : Pg) : Prop where
  z0 : 1 ≤ g.sz
  z1 : g.sz ≤ 5
  f0 : g.fs ≠ []
  fl : g.fs.length ≤ 5
  fa : g.fs.Pairwise (· < ·)
  fb : ∀ o ∈ g.fs, 0 ≤ o ∧ o < g.sz
  p0 : g.ps ≠ []
  p4 : g.ps.length ≤ 4
  nd : g.names.Nodup
  fm : ∀ q ∈ g.ps, Form g.sz (.str q.nm) q.p q.ms q.os
  ca : ∀ q ∈ g.ps, ∀ m ∈ q.ms, CallIn g.names m
theorem objs_cl {sz : Nat} {ps : List Pd} (h : ∀ q ∈ ps, Form sz (.str q.nm) q.p q.ms q.os) : clIs (ps.map Pd.obj) = true := cls_all fun x hx => by
  obtain ⟨q, hq, rfl⟩ := List.mem_map.mp hx
  exact (h q hq).pocl
section
variable {g : Pg}
theorem PgOk.ocl (h : PgOk g) : clIs g.objs = true := objs_cl h.fm
theorem PgOk.scl (h : PgOk g) : clIs g.shape = true := by simp [Pg.shape, Pg.fsI, clIs, clI, cls_ints, h.ocl]
theorem PgOk.fcl (h : PgOk g) : clIs g.fields = true := by simp [Pg.fields, Pg.fsI, clIs, clI, cls_ints, h.ocl, h.scl]
theorem PgOk.cl (h : PgOk g) : clI g.obj = true := by simp [Pg.obj, clI, h.fcl]
theorem Pg.ol (g : Pg) : g.objs.length = g.ps.length := by simp [Pg.objs]
theorem Pg.zipk (g : Pg) : g.keys.zip g.objs = g.ps.map fun q => ((.inr q.nm : L2.Key), q.obj) := by
  unfold Pg.keys Pg.objs
  rw [List.zip_map']
theorem Pg.dct (g : Pg) (st : Hs) : dctI st (.fd g.keys g.objs) = some (g.ps.map fun q => ((.inr q.nm : L2.Key), q.obj)) := by
  unfold dctI
  dsimp only
  rw [if_pos (by simp [Pg.keys, Pg.objs]), g.zipk]
theorem Pg.dct0 (g : Pg) : g.keys.length = g.objs.length := by simp [Pg.keys, Pg.objs]
end
/-! lookups -/
theorem valI_map {α : Type} {N : α → Str} {F : α → IV} : ∀ {ps : List α}, (ps.map N).Nodup → ∀ q ∈ ps, valI (ps.map fun q => ((.inr (N q) : L2.Key), F q)) (.inr (N q)) = some (F q)
  | [], _, _, h => by cases h
  | p :: ps, nd, q, h => by
    obtain ⟨n1, n2⟩ := List.nodup_cons.mp nd
    unfold valI
    rw [List.map_cons, List.find?_cons]
    by_cases e : (.inr (N p) : L2.Key) = .inr (N q)
    · simp only [e, decide_true, Option.map_some]
      rcases List.mem_cons.mp h with rfl | hq
      · rfl
      · exfalso
        injection e with e
        exact n1 (e ▸ List.mem_map_of_mem hq)
    · simp only [e, decide_false]
      rcases List.mem_cons.mp h with rfl | hq
      · exact absurd rfl e
      · exact valI_map n2 q hq
theorem valI_no {α : Type} {N : α → Str} {F : α → IV} {z : Str} : ∀ {ps : List α}, z ∉ ps.map N → valI (ps.map fun q => ((.inr (N q) : L2.Key), F q)) (.inr z) = none
  | [], _ => rfl
  | p :: ps, h => by
    simp only [List.map_cons, List.mem_cons, not_or] at h
    have e : (.inr (N p) : L2.Key) ≠ .inr z := fun e => by injection e with e; exact h.1 e.symm
    unfold valI
    rw [List.map_cons, List.find?_cons]
    simp only [e, decide_false]
    exact valI_no h.2
theorem valI_int {α : Type} {N : α → Str} {F : α → IV} {i : Int} : ∀ {ps : List α}, valI (ps.map fun q => ((.inr (N q) : L2.Key), F q)) (.inl i) = none
  | [] => rfl
  | p :: ps => by
    unfold valI
    rw [List.map_cons, List.find?_cons]
    simp only [reduceCtorEq, decide_false]
    exact valI_int
theorem putD_new {kvs : List (L2.Key × IV)} {k : L2.Key} {x : IV} (h : k ∉ kvs.map (·.1)) : putD kvs k x = kvs ++ [(k, x)] := by
  unfold putD
  rw [if_neg]
  intro q
  obtain ⟨z, hz, e⟩ := List.any_eq_true.mp q
  exact h (List.mem_map.mpr ⟨z, hz, of_decide_eq_true e⟩)
theorem keyOf_keyI (k : L2.Key) : keyOf (keyI k) = some k := by cases k <;> rfl
theorem goDc_seq {x : IV} {ys : List IV} {j : Nat} {mk mv : ME} {env : Sm.Env} {st : Hs} {F : IV → L2.Key} (hs : seqOf st x = some ys) (hk : ∀ y ∈ ys, mk (env.set j (some y)) st = .ok (keyI (F y)) st) (hv : ∀ y ∈ ys, mv (env.set j (some y)) st = .ok y st) (nd : (ys.map F).Nodup) (hn : ys.length ≤ big) :
    ∀ (k i : Nat) (acc : List (L2.Key × IV)), i + k = ys.length → acc = (ys.take i).map (fun y => (F y, y)) → goDc (.seq x ys.length) (gNm j) mtYes mk mv env k i acc st = .ok (ys.map fun y => (F y, y)) st
  | 0, i, acc, ek, ha => by
    unfold goDc
    have e : i = ys.length := by omega
    rw [if_pos (by simp [Src.fin, hs]), ha, e, List.take_length]
  | k + 1, i, acc, ek, ha => by
    have hi : i < ys.length := by omega
    have hm := List.getElem_mem hi
    unfold goDc
    have e1 : Src.item (.seq x ys.length) i st = some ys[i] := by simp only [Src.item, hs, Option.bind_some, if_true, List.getElem?_eq_getElem hi]
    have la : acc.length = i := by rw [ha]; simp; omega
    simp only [e1, gNm, Sm.ret, mtYes, hk _ hm, hv _ hm, keyOf_keyI]
    rw [if_pos (by omega)]
    refine goDc_seq hs hk hv nd hn k (i + 1) _ (by omega) ?_
    have e2 : ys.take (i + 1) = ys.take i ++ [ys[i]] := by rw [List.take_succ, List.getElem?_eq_getElem hi]; rfl
    rw [putD_new, ha, e2, List.map_append]
    · rfl
    · rw [ha, List.map_map]
      intro q
      obtain ⟨y, hy, e⟩ := List.mem_map.mp q
      obtain ⟨n, hn', rfl⟩ := List.getElem_of_mem hy
      simp only [List.length_take] at hn'
      rw [List.getElem_take] at e
      have := (List.pairwise_iff_getElem.mp nd) n i (by simp; omega) (by simpa using hi) (by omega)
      refine this ?_
      rw [List.getElem_map, List.getElem_map]
      exact e
/-- all([m for .. in a tuple]), each true; what is laid is told -/
theorem all_TL {i j : Nat} {m : ME} {env : Sm.Env} {ys : List IV} {st : Hs} (h1 : env[i]? = some (some (.tup ys))) (hb : ∀ y ∈ ys, m ((env.set j none).set j (some y)) st = .ok (.bl true) st) (hn : ys.length ≤ big) : mB bAll (maC (mLc (iTp (mVar i)) (gNm j) mtYes m [j]) maN) env st = .ok (.bl true) (st ++ [.lst (ys.map fun _ => IV.bl true)]) := by
  have e := goLc_filt (s := .seq (.tup ys) ys.length) (g := gNm j) (c := mtYes) (m := m) (env := env.set j none) (B := fun _ => true) (F := fun _ => .bl true) (st := st) (by simp [Src.fin, seqOf]) (fun i hi => by
    have hi : i < ys.length := hi
    exact ⟨ys[i], _, by simp [Src.item, seqOf, hi], rfl, rfl, fun _ => hb _ (List.getElem_mem hi)⟩) ys.length 0 [] (Nat.zero_add _) hn (Nat.le_refl _)
  have ea : [] ++ ((List.range' 0 ys.length).filter fun _ => true).map (fun _ => IV.bl true) = (ys.map fun _ => true).map IV.bl := by
    rw [List.filter_eq_self.mpr (fun _ _ => rfl), List.nil_append]
    apply List.ext_getElem
    · simp
    · intro i h1 h2; simp
  rw [ea] at e
  have eb : (ys.map fun _ => IV.bl true) = (ys.map fun _ => true).map IV.bl := by rw [List.map_map]; rfl
  rw [eb]
  have et : (ys.map fun _ => true).all id = true := by simp
  generalize (ys.map fun _ => true) = bs at e et ⊢
  have h1' : mVar i env st = .ok (.tup ys) st := by simp only [mVar, h1]
  simp only [mB, maC, maN, mLc, iTp, bnd, h1', Src.n, wipeI, e, Sm.ret, bAll, seqOf, lstOf, ioL]
  simp only [List.getElem?_append_right (Nat.le_refl _), Nat.sub_self, List.getElem?_cons_zero, ioL, Option.bind_some, bls_map, Option.map_some, lf, et]
/-- all([m for .. in a tuple if c]), each true -/
theorem all_TC {j : Nat} {c : MT} {m : ME} {x : ME} {env : Sm.Env} {ys : List IV} {st : Hs} {B : IV → Bool} (h1 : x env st = .ok (.tup ys) st) (hc : ∀ y ∈ ys, c ((env.set j none).set j (some y)) st = .ok (B y) st) (hb : ∀ y ∈ ys, B y = true → m ((env.set j none).set j (some y)) st = .ok (.bl true) st) (hn : ys.length ≤ big) : ∃ l, mB bAll (maC (mLc (iTp x) (gNm j) c m [j]) maN) env st = .ok (.bl true) (st ++ l) := by
  have e := goLc_filt (s := .seq (.tup ys) ys.length) (g := gNm j) (c := c) (m := m) (env := env.set j none) (B := fun i => (ys[i]?.map B).getD false) (F := fun _ => .bl true) (st := st) (by simp [Src.fin, seqOf]) (fun i hi => by
    have hi : i < ys.length := hi
    refine ⟨ys[i], _, by simp [Src.item, seqOf, hi], rfl, ?_, fun q => ?_⟩
    · rw [List.getElem?_eq_getElem hi]; exact hc _ (List.getElem_mem hi)
    · rw [List.getElem?_eq_getElem hi] at q; exact hb _ (List.getElem_mem hi) q) ys.length 0 [] (Nat.zero_add _) hn (Nat.le_refl _)
  obtain ⟨is, hi⟩ : ∃ is, is = (List.range' 0 ys.length).filter fun i => (ys[i]?.map B).getD false := ⟨_, rfl⟩
  rw [← hi, List.nil_append] at e
  have ea : is.map (fun _ => IV.bl true) = (is.map fun _ => true).map IV.bl := by rw [List.map_map]; rfl
  rw [ea] at e
  have et : (is.map fun _ => true).all id = true := by simp
  generalize (is.map fun _ => true) = bs at e et
  refine ⟨[.lst (bs.map .bl)], ?_⟩
  simp only [mB, maC, maN, mLc, iTp, bnd, h1, Src.n, wipeI, e, Sm.ret, bAll, seqOf, lstOf, ioL]
  simp only [List.getElem?_append_right (Nat.le_refl _), Nat.sub_self, List.getElem?_cons_zero, ioL, Option.bind_some, bls_map, Option.map_some, lf, et]
/-! the fields of the instance that is being made -/
theorem putI_new {f : Str} {v : IV} : ∀ {ns : List Str} {xs : List IV}, f ∉ ns → ns.length = xs.length → putI f v ns xs = (ns ++ [f], xs ++ [v])
  | [], [], _, _ => rfl
  | [], _ :: _, _, h => by cases h
  | _ :: _, [], _, h => by cases h
  | n :: ns, x :: xs, h, hl => by
    simp only [List.mem_cons, not_or] at h
    unfold putI
    rw [if_neg (Ne.symm h.1), putI_new h.2 (by simpa using hl)]
    rfl
theorem fldI_hd {ok : OkF} {c f : Str} {ns : List Str} {xs : List IV} {v : IV} {l : Hs} {env : Sm.Env} {m : ME} (h : m env (.ins c ns xs :: l) = .ok v (.ins c ns xs :: l)) (hv : env[0]? = some (some (.ref 0))) (hok : ok c f = true) (hn : f ∉ ns) (hl : ns.length < 1000) (hx : ns.length = xs.length) :
    sFldI ok f (mVar 0) m env (.ins c ns xs :: l) = .nx env (.ins c (ns ++ [f]) (xs ++ [v]) :: l) := by
  unfold sFldI sE
  rw [h]
  dsimp only
  rw [v_ok hv]
  dsimp only [List.getElem?_cons_zero]
  rw [hok, decide_eq_true hl, putI_new hn hx]
  rfl
theorem fld_hd {ok : OkF} {c f : Str} {ns : List Str} {xs : List IV} {v : IV} {l : Hs} {env : Sm.Env} (hv : env[0]? = some (some (.ref 0))) (hok : ok c f = true) (hf : fldOf f ns xs = some v) : mFld ok f (mVar 0) env (.ins c ns xs :: l) = .ok v (.ins c ns xs :: l) := by
  unfold mFld bnd
  rw [v_ok hv]
  simp only [insOf, List.getElem?_cons_zero, hok, hf, if_true]
/-- a call with closed arguments that gives a list: it is run where it stands -/
theorem run_ref {f : List IV → M IV} {xs : List IV} {st st' st2 : Hs} {k j : Nat} (c : clIs xs = true) (e0 : f xs [] = .ok (.ref k) st') (e : f xs st = .ok (.ref j) st2) : runC f xs st = .ok (.ref j) st2 := by
  unfold runC
  rw [if_pos c, e0]
  simp only [clI, Bool.false_and, Bool.false_eq_true, if_false]
  exact e
/-- a call with closed arguments that lays nothing that stays -/
theorem run_ins {f : List IV → M IV} {xs : List IV} {st : Hs} {v : IV} (c : clIs xs = true) (hv : clI v = true) (e : ∃ s, f xs [] = .ok v s) (hn : noIns st = true) : runC f xs st = .ok v st := runC_cl c hv e (by rw [hn]; rfl)
theorem fld_ok {ok : OkF} {f c : Str} {ns : List Str} {xs : List IV} {v : IV} {m : ME} {env : Sm.Env} {st st' : Hs} (h : m env st = .ok (.obj c ns xs) st') (hok : ok c f = true) (hf : fldOf f ns xs = some v) : mFld ok f m env st = .ok v st' := by
  unfold mFld bnd
  rw [h]
  simp only [insOf, hok, hf, if_true]
end Sm

set_option Elab.async false
set_option linter.all false
set_option maxRecDepth 100000
set_option maxHeartbeats 0
namespace K04
open Sm L2 PySem PySem.Spec
/-! the mirrors -/
def okf : OkF := okOf [("Procedure", "own_at"), ("Procedure", "own_ends"), ("Program", "own_kept"), ("Program", "own_main"), ("Procedure", "own_moves"), ("Procedure", "own_name"), ("Procedure", "own_points"), ("Program", "own_procedures"), ("Procedure", "own_shape"), ("Program", "own_shape"), ("Program", "own_size"), ("Program", "own_starts"), ("Program", "own_table")]
def own_cs : List Str := ["Procedure", "Program"]
def g_Procedure : List IV → List IV → List IV := fun xs _ => xs ++ [.tup []]
def g_Procedure_ends : List IV → List IV → List IV := fun xs ys => xs ++ ys
def g_Program : List IV → List IV → List IV := fun xs _ => xs ++ [.tup [.int 0]]
def g_Program_starts : List IV → List IV → List IV := fun xs ys => xs ++ ys
def g_Program_of_starts : List IV → List IV → List IV := fun xs ys => xs ++ ys
def b_is_ascending : MS := (sRet (mB bAll (maC (mLc (iZp (maC (mVar 0) (maC (mSl (mVar 0) (mPt (mC (.int 1))) mNo) maN))) (gTp 2 (gsC (gNm 1) (gsC (gNm 2) gsN))) mtYes (mBin oLt (mVar 1) (mVar 2)) [1, 2]) maN)))
def f_is_ascending : List IV → M IV := mDef 3 b_is_ascending
def b_is_integer : MS := (sRet (mAnd (mIsi "int" (mVar 0)) (mAnd (mNot (mIsi "bool" (mVar 0))) (mChain oLt oLt (mNeg (mC (.int 10000000000000000000000000000000000000000))) (mVar 0) (mC (.int 10000000000000000000000000000000000000000))))))
def f_is_integer : List IV → M IV := mDef 1 b_is_integer
def b_is_below : MS := (sRet (mAnd (mCall f_is_integer (maC (mVar 0) maN)) (mChain oLe oLt (mC (.int 0)) (mVar 0) (mVar 1))))
def f_is_below : List IV → M IV := mDef 2 b_is_below
def b_are_numbers : MS := (sRet (mAnd (mIsi "tuple" (mVar 0)) (mAnd (mB bAll (maC (mLc (iTp (mVar 0)) (gNm 2) mtYes (mCall f_is_below (maC (mVar 2) (maC (mVar 1) maN))) [2]) maN)) (mCall f_is_ascending (maC (mVar 0) maN)))))
def f_are_numbers : List IV → M IV := mDef 3 b_are_numbers
def b_are_ends : MS := (sRet (mAnd (mCall f_are_numbers (maC (mVar 0) (maC (mVar 1) maN))) (mBin oLe (mB bLen (maC (mVar 0) maN)) (mC (.int 3)))))
def f_are_ends : List IV → M IV := mDef 2 b_are_ends
def b_is_name : MS := (sSeq (sIf (mtOr (mtNot (mtB (mIsi "str" (mVar 0)))) (mtNot (mtB (mChain oLt oLe (mC (.int 0)) (mB bLen (maC (mVar 0) maN)) (mC (.int 8)))))) (sRet (mC (.bl false))) sNx)
    (sRet (mB bAll (maC (mLc (iTx (mVar 0)) (gNm 1) mtYes (mBin oIn (mVar 1) (mC (.str "abcdefghijklmnopqrstuvwxyz"))) [1]) maN))))
def f_is_name : List IV → M IV := mDef 2 b_is_name
def b_is_table_row : MS := (sSeq (sIf (mtOr (mtNot (mtB (mIsi "tuple" (mVar 0)))) (mtNot (mtB (mChain oLt oLe (mC (.int 0)) (mB bLen (maC (mVar 0) maN)) (mC (.int 5)))))) (sRet (mC (.bl false))) sNx)
    (sRet (mB bAll (maC (mLc (iTp (mVar 0)) (gNm 1) mtYes (mOr (mBin oIsN (mVar 1) (mC .non)) (mCall f_is_below (maC (mVar 1) (maC (mB bLen (maC (mVar 0) maN)) maN)))) [1]) maN))))
def f_is_table_row : List IV → M IV := mDef 2 b_is_table_row
def b_is_move : MS := (sSeq (sIf (mtOr (mtNot (mtB (mIsi "tuple" (mVar 0)))) (mtB (mBin oNe (mB bLen (maC (mVar 0) maN)) (mC (.int 4))))) (sRet (mC (.bl false))) sNx)
    (sSeq (sIf (mtOr (mtNot (mtB (mCall f_is_below (maC (mBin oIx (mVar 0) (mC (.int 1))) (maC (mVar 1) maN))))) (mtNot (mtB (mCall f_is_below (maC (mBin oIx (mVar 0) (mC (.int 3))) (maC (mVar 1) maN)))))) (sRet (mC (.bl false))) sNx)
    (sSeq (sMatch (mVar 0) (cC (pSeq 4 (psC (pVal (.str "set")) (psC (pCap 2) (psC (pCap 3) (psC (pCap 4) psN))))) (sRet (mCall f_is_table_row (maC (mVar 3) maN)))
    (cC (pSeq 4 (psC (pVal (.str "call")) (psC (pCap 2) (psC (pCap 5) (psC (pCap 4) psN))))) (sRet (mCall f_is_name (maC (mVar 5) maN)))
    cN)))
    (sRet (mC (.bl false))))))
def f_is_move : List IV → M IV := mDef 6 b_is_move
def b_lengths_of : MS := (sRet (mSsc (iTp (mVar 0)) (gNm 1) (mtB (mBin oEq (mBin oIx (mVar 1) (mC (.int 0))) (mC (.str "set")))) (mB bLen (maC (mBin oIx (mVar 1) (mC (.int 2))) maN)) [1]))
def f_lengths_of : List IV → M IV := mDef 2 b_lengths_of
def b_are_moves : MS := (sSeq (sIf (mtOr (mtNot (mtB (mIsi "tuple" (mVar 0)))) (mtOr (mtB (mBin oGt (mB bLen (maC (mVar 0) maN)) (mC (.int 12)))) (mtNot (mtB (mB bAll (maC (mLc (iTp (mVar 0)) (gNm 2) mtYes (mCall f_is_move (maC (mVar 2) (maC (mVar 1) maN))) [2]) maN)))))) (sRet (mC (.bl false))) sNx)
    (sRet (mBin oLe (mB bLen (maC (mCall f_lengths_of (maC (mVar 0) maN)) maN)) (mC (.int 1)))))
def f_are_moves : List IV → M IV := mDef 3 b_are_moves
def b_indices_at : MS := (sRet (mLc (iEnT (maC (mVar 0) maN)) (gTp 2 (gsC (gNm 2) (gsC (gNm 3) gsN))) (mtB (mBin oEq (mBin oIx (mVar 3) (mC (.int 1))) (mVar 1))) (mVar 2) [2, 3]))
def f_indices_at : List IV → M IV := mDef 4 b_indices_at
def b_Procedure_U_initU_ : MS := (sSeq (sIf (mtOr (mtNot (mtB (mCall f_is_name (maC (mVar 1) maN)))) (mtOr (mtNot (mtB (mCall f_is_below (maC (mVar 2) (maC (mBin oAdd (mC (.int 6)) (mC (.int 1))) maN))))) (mtB (mBin oEq (mVar 2) (mC (.int 0)))))) (sRaise "InvalidProgram") sNx)
    (sSeq (sIf (mtNot (mtB (mCall f_are_moves (maC (mVar 3) (maC (mVar 2) maN))))) (sRaise "InvalidProgram") sNx)
    (sSeq (sIf (mtNot (mtB (mCall f_are_ends (maC (mVar 4) (maC (mVar 2) maN))))) (sRaise "InvalidProgram") sNx)
    (sSeq (sFldI okf "own_name" (mVar 0) (mVar 1))
    (sSeq (sFldI okf "own_points" (mVar 0) (mVar 2))
    (sSeq (sFldI okf "own_moves" (mVar 0) (mVar 3))
    (sSeq (sFldI okf "own_ends" (mVar 0) (mVar 4))
    (sSeq (sFldI okf "own_at" (mVar 0) (mB bTuple (maC (mLc (iRg1 (maC (mVar 2) maN)) (gNm 5) mtYes (mB bTuple (maC (mCall f_indices_at (maC (mVar 3) (maC (mVar 5) maN))) maN)) [5]) maN)))
    (sFldI okf "own_shape" (mVar 0) (mTup (maC (mVar 1) (maC (mVar 2) (maC (mVar 3) (maC (mVar 4) maN))))))))))))))
def f_Procedure_U_initU_ : List IV → M IV := mDef 6 b_Procedure_U_initU_
def b_Procedure_U_lenU_ : MS := (sRet (mB bLen (maC (mFld okf "own_moves" (mVar 0)) maN)))
def f_Procedure_U_lenU_ : List IV → M IV := mDef 1 b_Procedure_U_lenU_
def b_Procedure_U_strU_ : MS := (sRet (mJs [(mC (.str "procedure ")), (mFmt (mFld okf "own_name" (mVar 0))), (mC (.str ", ")), (mFmt (mFld okf "own_points" (mVar 0))), (mC (.str " points, ")), (mFmt (mB bLen (maC (mFld okf "own_moves" (mVar 0)) maN))), (mC (.str " moves"))]))
def f_Procedure_U_strU_ : List IV → M IV := mDef 1 b_Procedure_U_strU_
def b_Procedure_ends : MS := (sRet (mFld okf "own_ends" (mVar 0)))
def f_Procedure_ends : List IV → M IV := mDef 1 b_Procedure_ends
def a_ends : Alts := [("Procedure", f_Procedure_ends)]
def b_Program_U_containsU_ : MS := (sRet (mAnd (mIsO own_cs "str" (mVar 1)) (mBin oInD (mVar 1) (mFld okf "own_table" (mVar 0)))))
def f_Program_U_containsU_ : List IV → M IV := mDef 2 b_Program_U_containsU_
def a_U_containsU_ : Alts := [("Program", f_Program_U_containsU_)]
def b_require_procedure : MS := (sIf (mtB (mBin (oInO true a_U_containsU_) (mVar 1) (mVar 0))) sNo sNx)
def f_require_procedure : List IV → M IV := mDef 2 b_require_procedure
def b_Program_U_getitemU_ : MS := (sSeq (sExp (mCall f_require_procedure (maC (mVar 0) (maC (mVar 1) maN))))
    (sRet (mDgt (mFld okf "own_table" (mVar 0)) (mVar 1))))
def f_Program_U_getitemU_ : List IV → M IV := mDef 2 b_Program_U_getitemU_
def a_U_getitemU_ : Alts := [("Program", f_Program_U_getitemU_)]
def b_are_fitting : MS := (sSeq (sFor (iVl (mVar 1)) (gNm 2) (sSeq (sIf (mtB (mBin oNotIn (mCall f_lengths_of (maC (mFld okf "own_moves" (mVar 2)) maN)) (mTup (maC (mLst maN) (maC (mLst (maC (mVar 0) maN)) maN))))) (sRet (mC (.bl false))) sNx)
    (sIf (mtNot (mtB (mB bAll (maC (mLc (iTp (mFld okf "own_moves" (mVar 2))) (gNm 3) (mtB (mBin oEq (mBin oIx (mVar 3) (mC (.int 0))) (mC (.str "call")))) (mBin oInD (mBin oIx (mVar 3) (mC (.int 2))) (mVar 1)) [3]) maN)))) (sRet (mC (.bl false))) sNx)))
    (sRet (mC (.bl true))))
def f_are_fitting : List IV → M IV := mDef 4 b_are_fitting
def b_Program_U_initU_ : MS := (sSeq (sIf (mtOr (mtNot (mtB (mCall f_is_below (maC (mVar 1) (maC (mBin oAdd (mC (.int 5)) (mC (.int 1))) maN))))) (mtB (mBin oEq (mVar 1) (mC (.int 0))))) (sRaise "InvalidProgram") sNx)
    (sSeq (sIf (mtOr (mtNot (mtB (mChain oLt oLe (mC (.int 0)) (mB bLen (maC (mVar 3) maN)) (mC (.int 4))))) (mtNot (mtB (mB bAll (maC (mLc (iTp (mVar 3)) (gNm 4) mtYes (mIsC own_cs "Procedure" (mVar 4)) [4]) maN))))) (sRaise "InvalidProgram") sNx)
    (sSeq (sIf (mtOr (mtNot (mtB (mCall f_are_numbers (maC (mVar 2) (maC (mVar 1) maN))))) (mtB (mBin oEq (mVar 2) (mTup maN)))) (sRaise "InvalidProgram") sNx)
    (sSeq (sFldI okf "own_size" (mVar 0) (mVar 1))
    (sSeq (sFldI okf "own_starts" (mVar 0) (mVar 2))
    (sSeq (sFldI okf "own_procedures" (mVar 0) (mVar 3))
    (sSeq (sFldI okf "own_table" (mVar 0) (mDcF (iTp (mVar 3)) (gNm 4) mtYes (mFld okf "own_name" (mVar 4)) (mVar 4) [4]))
    (sSeq (sFldI okf "own_main" (mVar 0) (mFld okf "own_name" (mBin oIx (mVar 3) (mC (.int 0)))))
    (sSeq (sIf (mtOr (mtB (mBin oNe (mB bLenD (maC (mFld okf "own_table" (mVar 0)) maN)) (mB bLen (maC (mVar 3) maN)))) (mtNot (mtB (mCall f_are_fitting (maC (mVar 1) (maC (mFld okf "own_table" (mVar 0)) maN)))))) (sRaise "InvalidProgram") sNx)
    (sSeq (sFldI okf "own_kept" (mVar 0) mDctF)
    (sFldI okf "own_shape" (mVar 0) (mTup (maC (mVar 1) (maC (mVar 2) (maC (mVar 3) maN)))))))))))))))
def f_Program_U_initU_ : List IV → M IV := mDef 5 b_Program_U_initU_
def b_Program_U_lenU_ : MS := (sRet (mB bLen (maC (mFld okf "own_procedures" (mVar 0)) maN)))
def f_Program_U_lenU_ : List IV → M IV := mDef 1 b_Program_U_lenU_
def a_U_lenU_ : Alts := [("Procedure", f_Procedure_U_lenU_), ("Program", f_Program_U_lenU_)]
def b_Program_U_strU_ : MS := (sSeq (sAsg (mB bSum (maC (mLc (iTp (mFld okf "own_procedures" (mVar 0))) (gNm 2) mtYes (mB (bLenO a_U_lenU_) (maC (mVar 2) maN)) [2]) maN)) (gNm 1))
    (sRet (mJs [(mC (.str "program of ")), (mFmt (mB bLen (maC (mFld okf "own_procedures" (mVar 0)) maN))), (mC (.str " procedures, ")), (mFmt (mVar 1)), (mC (.str " moves, ")), (mFmt (mFld okf "own_size" (mVar 0))), (mC (.str " numbers"))])))
def f_Program_U_strU_ : List IV → M IV := mDef 3 b_Program_U_strU_
def a_U_strU_ : Alts := [("Procedure", f_Procedure_U_strU_), ("Program", f_Program_U_strU_)]
def b_Program_names : MS := (sRet (mB bTuple (maC (mB bLsD (maC (mFld okf "own_table" (mVar 0)) maN)) maN)))
def f_Program_names : List IV → M IV := mDef 1 b_Program_names
def a_names : Alts := [("Program", f_Program_names)]
def b_Program_size : MS := (sRet (mFld okf "own_size" (mVar 0)))
def f_Program_size : List IV → M IV := mDef 1 b_Program_size
def a_size : Alts := [("Program", f_Program_size)]
def b_Program_starts : MS := (sRet (mFld okf "own_starts" (mVar 0)))
def f_Program_starts : List IV → M IV := mDef 1 b_Program_starts
def a_starts : Alts := [("Program", f_Program_starts)]
def b_Procedure_U_eqU_ : MS := (sRet (mAnd (mIsC own_cs "Procedure" (mVar 1)) (mBin oEq (mFld okf "own_shape" (mVar 0)) (mFld okf "own_shape" (mVar 1)))))
def f_Procedure_U_eqU_ : List IV → M IV := mDef 2 b_Procedure_U_eqU_
def q_Procedure : Alts := [("Procedure", f_Procedure_U_eqU_)]
def b_Program_U_eqU_ : MS := (sRet (mAnd (mIsC own_cs "Program" (mVar 1)) (mBin (oEqD q_Procedure) (mFld okf "own_shape" (mVar 0)) (mFld okf "own_shape" (mVar 1)))))
def f_Program_U_eqU_ : List IV → M IV := mDef 2 b_Program_U_eqU_
def a_U_eqU_ : Alts := [("Procedure", f_Procedure_U_eqU_), ("Program", f_Program_U_eqU_)]
def b_Program_main : MS := (sRet (mFld okf "own_main" (mVar 0)))
def f_Program_main : List IV → M IV := mDef 1 b_Program_main
def a_main : Alts := [("Program", f_Program_main)]
def b_Program_of : MS := (sSeq (sIf (mtNot (mtB (mIsi "tuple" (mVar 2)))) (sRaise "InvalidProgram") sNx)
    (sRet (mClS 0 "Program" 1 f_Program_U_initU_ g_Program_starts (maC (mVar 1) (maS (mVar 2) maN)) (maC (mVar 3) maN))))
def f_Program_of : List IV → M IV := mDef 4 b_Program_of
def b_Program_procedures : MS := (sRet (mFld okf "own_procedures" (mVar 0)))
def f_Program_procedures : List IV → M IV := mDef 1 b_Program_procedures
def a_procedures : Alts := [("Program", f_Program_procedures)]
def b__law_procedure : MS := (sSeq (sAsg (mB bTuple (maC (mDgt (mDgt (mVar 0) (mC (.str "moves"))) (mVar 1)) maN)) (gNm 2))
    (sRet (mMk "Procedure" f_Procedure_U_initU_ g_Procedure_ends (maC (mVar 1) (maC (mDgt (mDgt (mVar 0) (mC (.str "points"))) (mVar 1)) (maC (mVar 2) maN))) (maC (mDgt (mDgt (mVar 0) (mC (.str "outs"))) (mVar 1)) maN))))
def f__law_procedure : List IV → M IV := mDef 3 b__law_procedure
def b__law_made : MS := (sSeq (sAsg (mB bTuple (maC (mLc (iLs (mDgt (mVar 0) (mC (.str "names")))) (gNm 2) mtYes (mCall f__law_procedure (maC (mVar 0) (maC (mVar 2) maN))) [2]) maN)) (gNm 1))
    (sRet (mCm "Program" f_Program_of g_Program_of_starts (maC (mDgt (mVar 0) (mC (.str "size"))) (maC (mVar 1) maN)) (maC (mDgt (mVar 0) (mC (.str "firsts"))) maN))))
def f__law_made : List IV → M IV := mDef 3 b__law_made
def b__law_take : MS := (sSeq (sIf (mtB (mBin oGt (mBin oIx (mVar 0) (mC (.int 0))) (mC (.int 0)))) (sSeq (sAsg (mBin oMod (mB bInt (maC (mBin oIx (mVar 0) (mC (.int 0))) maN)) (mVar 1)) (gNm 2))
    (sSeq (sAsg (mBin oFdv (mBin oIx (mVar 0) (mC (.int 0))) (mVar 1)) (gSb (mVar 0) (mC (.int 0))))
    (sRet (mVar 2)))) sNx)
    (sSeq (sAsg (mBin oAdd (mBin oIx (mVar 0) (mC (.int 2))) (mC (.int 1))) (gSb (mVar 0) (mC (.int 2))))
    (sSeq (sAsg (mBin oMod (mB bInt (maC (mBin oAdd (mBin oIx (mVar 0) (mC (.int 1))) (mBin oMul (mC (.int 1299709)) (mBin oIx (mVar 0) (mC (.int 2))))) maN)) (mC (.int 2305843009213693951))) (gNm 3))
    (sSeq (sAsg (mBin oMod (mB bInt (maC (mBin oAdd (mBin oMul (mVar 3) (mVar 3)) (mBin oMul (mC (.int 7919)) (mBin oIx (mVar 0) (mC (.int 2))))) maN)) (mC (.int 1000000000039))) (gNm 4))
    (sSeq (sAsg (mBin oMod (mB bInt (maC (mBin oAdd (mBin oMul (mVar 4) (mVar 4)) (mVar 3)) maN)) (mC (.int 998244353))) (gNm 5))
    (sRet (mBin oMod (mB bInt (maC (mBin oFdv (mVar 5) (mC (.int 61))) maN)) (mVar 1))))))))
def f__law_take : List IV → M IV := mDef 6 b__law_take
def b__law_one : MS := (sRet (mBin oIx (mVar 1) (mCall f__law_take (maC (mVar 0) (maC (mB bLen (maC (mVar 1) maN)) maN)))))
def f__law_one : List IV → M IV := mDef 2 b__law_one
def b__law_others_0 : MS := (sPar2 3 4 (maC (mDgt (mVar 1) (mC (.str "size"))) (maC (mDgt (mVar 1) (mC (.str "firsts"))) maN)))
def b__law_others_1 : MS := (sAsg (mLst (maC (mC .non) (maC (mB bTuple (maC (mVar 2) maN)) (maC (mDgt (mVar 1) (mC (.str "names"))) (maC (mDgt (mVar 1) (mC (.str "moves"))) (maC (mC (.int 0)) (maC (mBin oIx (mVar 2) (mC (.int 0))) maN))))))) (gNm 5))
def b__law_others_2 : MS := (sIf (mtB (mBin oGt (mB bLen (maC (mVar 2) maN)) (mC (.int 1)))) (sExp (mMth tAppend (mVar 5) (maC (mCm "Program" f_Program_of g_Program_of_starts (maC (mVar 3) (maC (mB bTuple (maC (mRevL (mVar 2)) maN)) maN)) (maC (mVar 4) maN)) maN))) sNx)
def b__law_others_3 : MS := (sFor (iRg1 (maC (mVar 3) maN)) (gNm 6) (sIf (mtB (mBin oNe (mTup (maC (mVar 6) maN)) (mVar 4))) (sExp (mMth tAppend (mVar 5) (maC (mCm "Program" f_Program_of g_Program_of_starts (maC (mVar 3) (maC (mB bTuple (maC (mVar 2) maN)) maN)) (maC (mTup (maC (mVar 6) maN)) maN)) maN))) sNx))
def b__law_others_4 : MS := (sAsg (mCall f__law_one (maC (mVar 0) (maC (mDgt (mVar 1) (mC (.str "names"))) maN))) (gNm 7))
def b__law_others_5 : MS := (sPar2 8 9 (maC (mB bDct (maC (mLsI (mVar 1)) maN)) (maC (mB bDct (maC (mLsI (mDgt (mVar 1) (mC (.str "moves")))) maN)) maN)))
def b__law_others_6 : MS := (sDpt (mVar 9) (mVar 7) (mBin oAdd (mDgt (mVar 9) (mVar 7)) (mLst (maC (mTup (maC (mC (.str "call")) (maC (mC (.int 0)) (maC (mC (.str "main")) (maC (mC (.int 0)) maN))))) maN))))
def b__law_others_7 : MS := (sDpt (mVar 8) (mC (.str "moves")) (mVar 9))
def b__law_others_8 : MS := (sRet (mBin oAdd (mVar 5) (mLst (maC (mCall f__law_made (maC (mVar 8) maN)) maN))))
def b__law_others : MS := (sSeq b__law_others_0 (sSeq b__law_others_1 (sSeq b__law_others_2 (sSeq b__law_others_3 (sSeq b__law_others_4 (sSeq b__law_others_5 (sSeq b__law_others_6 (sSeq b__law_others_7 b__law_others_8))))))))
def f__law_others : List IV → M IV := mDef 10 b__law_others
def b__law_entries : MS := (sRet (mB bTuple (maC (mLc (iRg1 (maC (mVar 1) maN)) (gNm 2) mtYes (mIf (mtB (mBin oEq (mCall f__law_take (maC (mVar 0) (maC (mC (.int 5)) maN))) (mC (.int 0)))) (mC .non) (mCall f__law_take (maC (mVar 0) (maC (mVar 1) maN)))) [2]) maN)))
def f__law_entries : List IV → M IV := mDef 3 b__law_entries
def b__law_move : MS := (sSeq (sAsg (mDgt (mDgt (mVar 1) (mC (.str "points"))) (mVar 2)) (gNm 3))
    (sSeq (sPar2 4 5 (maC (mCall f__law_take (maC (mVar 0) (maC (mVar 3) maN))) (maC (mCall f__law_take (maC (mVar 0) (maC (mVar 3) maN))) maN)))
    (sSeq (sIf (mtB (mBin oLt (mCall f__law_take (maC (mVar 0) (maC (mC (.int 5)) maN))) (mC (.int 3)))) (sRet (mTup (maC (mC (.str "set")) (maC (mVar 4) (maC (mCall f__law_entries (maC (mVar 0) (maC (mDgt (mVar 1) (mC (.str "size"))) maN))) (maC (mVar 5) maN)))))) sNx)
    (sRet (mTup (maC (mC (.str "call")) (maC (mVar 4) (maC (mCall f__law_one (maC (mVar 0) (maC (mDgt (mVar 1) (mC (.str "names"))) maN))) (maC (mVar 5) maN)))))))))
def f__law_move : List IV → M IV := mDef 6 b__law_move
def b__law_some : MS := (sSeq (sPar2 3 4 (maC (mB bList (maC (mVar 1) maN)) (maC (mLst maN) maN)))
    (sSeq (sFor (iRg1 (maC (mB bMin (maC (mVar 2) (maC (mB bLen (maC (mVar 1) maN)) maN))) maN)) (gNm 5) (sExp (mMth tAppend (mVar 4) (maC (mMth tPop (mVar 3) (maC (mCall f__law_take (maC (mVar 0) (maC (mB bLen (maC (mVar 3) maN)) maN))) maN)) maN))))
    (sRet (mVar 4))))
def f__law_some : List IV → M IV := mDef 6 b__law_some
def b__law_plain_0 : MS := (sAsg (mCall f__law_one (maC (mVar 0) (maC (mLst (maC (mC (.int 2)) (maC (mC (.int 3)) (maC (mC (.int 2)) (maC (mC (.int 1)) (maC (mC (.int 3)) (maC (mC (.int 4)) maN))))))) maN))) (gNm 2))
def b__law_plain_1 : MS := (sAsg (mDsp [((mC (.str "size")), (mVar 2)), ((mC (.str "names")), (mBin oAdd (mLst (maC (mC (.str "main")) maN)) (mCall f__law_some (maC (mVar 0) (maC (mLst (maC (mC (.str "p")) (maC (mC (.str "q")) (maC (mC (.str "ab")) maN)))) (maC (mCall f__law_take (maC (mVar 0) (maC (mVar 1) maN))) maN))))))]) (gNm 3))
def b__law_plain_2 : MS := (sDpt (mVar 3) (mC (.str "firsts")) (mB bTuple (maC (mB bSorted (maC (mCall f__law_some (maC (mVar 0) (maC (mLsRg (mVar 2)) (maC (mBin oAdd (mC (.int 1)) (mCall f__law_take (maC (mVar 0) (maC (mVar 2) maN)))) maN)))) maN)) maN)))
def b__law_plain_3 : MS := (sExp (mUpd (mVar 3) (mB bDct (maC (mLc (iLs (mLst (maC (mC (.str "points")) (maC (mC (.str "outs")) (maC (mC (.str "moves")) maN))))) (gNm 7) mtYes (mTup (maC (mVar 7) (maC mDct maN))) [7]) maN))))
def b__law_plain_4 : MS := (sFor (iLs (mDgt (mVar 3) (mC (.str "names")))) (gNm 4) (sSeq (sAsg (mBin oAdd (mC (.int 1)) (mCall f__law_take (maC (mVar 0) (maC (mC (.int 4)) maN)))) (gNm 5))
    (sSeq (sDpt (mDgt (mVar 3) (mC (.str "points"))) (mVar 4) (mVar 5))
    (sDpt (mDgt (mVar 3) (mC (.str "outs"))) (mVar 4) (mB bTuple (maC (mB bSorted (maC (mCall f__law_some (maC (mVar 0) (maC (mLsRg (mVar 5)) (maC (mCall f__law_one (maC (mVar 0) (maC (mLst (maC (mC (.int 1)) (maC (mC (.int 1)) (maC (mC (.int 2)) (maC (mC (.int 0)) maN))))) maN))) maN)))) maN)) maN))))))
def b__law_plain_5 : MS := (sFor (iLs (mDgt (mVar 3) (mC (.str "names")))) (gNm 4) (sDpt (mDgt (mVar 3) (mC (.str "moves"))) (mVar 4) (mLc (iRg1 (maC (mBin oAdd (mC (.int 1)) (mCall f__law_take (maC (mVar 0) (maC (mC (.int 6)) maN)))) maN)) (gNm 6) mtYes (mCall f__law_move (maC (mVar 0) (maC (mVar 3) (maC (mVar 4) maN)))) [6])))
def b__law_plain_6 : MS := (sRet (mVar 3))
def b__law_plain : MS := (sSeq b__law_plain_0 (sSeq b__law_plain_1 (sSeq b__law_plain_2 (sSeq b__law_plain_3 (sSeq b__law_plain_4 (sSeq b__law_plain_5 b__law_plain_6))))))
def f__law_plain : List IV → M IV := mDef 8 b__law_plain
def b__law_right_0 : MS := (sAsg (mCall f__law_plain (maC (mVar 0) (maC (mC (.int 4)) maN))) (gNm 1))
def b__law_right_1 : MS := (sAsg (mTup (maC (mCall f__law_made (maC (mVar 1) maN)) (maC (mDgt (mVar 1) (mC (.str "names"))) maN))) (gTp 2 (gsC (gNm 2) (gsC (gNm 3) gsN))))
def b__law_right_2 : MS := (sAsg (mLc (iLs (mVar 3)) (gNm 10) mtYes (mCall f__law_procedure (maC (mVar 1) (maC (mVar 10) maN))) [10]) (gNm 4))
def b__law_right_3 : MS := (sAsg (mB bSum (maC (mLc (iLs (mVar 3)) (gNm 10) mtYes (mB bLen (maC (mDgt (mDgt (mVar 1) (mC (.str "moves"))) (mVar 10)) maN)) [10]) maN)) (gNm 5))
def b__law_right_4 : MS := (sAsg (mLst (maC (mPrp a_size (mVar 2)) (maC (mPrp a_starts (mVar 2)) (maC (mPrp a_names (mVar 2)) (maC (mPrp a_main (mVar 2)) (maC (mB (bLenO a_U_lenU_) (maC (mVar 2) maN)) maN)))))) (gNm 6))
def b__law_right_5 : MS := (sIf (mtB (mBin oNe (mB bRepr (maC (mVar 6) maN)) (mB bRepr (maC (mLst (maC (mDgt (mVar 1) (mC (.str "size"))) (maC (mDgt (mVar 1) (mC (.str "firsts"))) (maC (mB bTuple (maC (mVar 3) maN)) (maC (mC (.str "main")) (maC (mB bLen (maC (mVar 3) maN)) maN)))))) maN)))) (sRet (mC (.bl false))) sNx)
def b__law_right_6 : MS := (sAsg (mBin oAdd (mBin oAdd (mBin oAdd (mBin oAdd (mC (.str "program of ")) (mB (bStrO a_U_strU_) (maC (mB bLen (maC (mVar 3) maN)) maN))) (mC (.str " procedures, "))) (mB (bStrO a_U_strU_) (maC (mVar 5) maN))) (mC (.str " moves, "))) (gNm 7))
def b__law_right_7 : MS := (sIf (mtB (mBin oNe (mB (bStrO a_U_strU_) (maC (mVar 2) maN)) (mBin oAdd (mBin oAdd (mVar 7) (mB (bStrO a_U_strU_) (maC (mDgt (mVar 1) (mC (.str "size"))) maN))) (mC (.str " numbers"))))) (sRet (mC (.bl false))) sNx)
def b__law_right_8 : MS := (sIf (mtOr (mtB (mBin (oNeD q_Procedure) (mB bList (maC (mPrp a_procedures (mVar 2)) maN)) (mVar 4))) (mtB (mBin (oNeD q_Procedure) (mLc (iLs (mVar 3)) (gNm 10) mtYes (mBin (oIxO a_U_getitemU_) (mVar 2) (mVar 10)) [10]) (mVar 4)))) (sRet (mC (.bl false))) sNx)
def b__law_right_9 : MS := (sIf (mtB (mBin oNe (mLc (iLs (mVar 3)) (gNm 10) (mtB (mBin (oInO true a_U_containsU_) (mVar 10) (mVar 2))) (mVar 10) [10]) (mLst maN))) (sRet (mC (.bl false))) sNx)
def b__law_right_10 : MS := (sAsg (mLst (maC (mC .non) (maC (mC (.int 0)) (maC (mC (.str "")) (maC (mC (.str "zz")) (maC (mTup (maC (mC (.str "main")) maN)) (maC (mLst (maC (mC (.str "main")) maN)) (maC mDct (maC (mC (.bl true)) (maC (mBin oIx (mVar 4) (mC (.int 0))) (maC (mVar 2) (maC (mC (.str "main ")) maN)))))))))))) (gNm 8))
def b__law_right_11 : MS := (sIf (mtB (mBin oNe (mLc (iLs (mVar 8)) (gNm 11) (mtB (mBin (oInO false a_U_containsU_) (mVar 11) (mVar 2))) (mVar 11) [11]) (mLst maN))) (sRet (mC (.bl false))) sNx)
def b__law_right_12 : MS := (sAsg (mCall f__law_others (maC (mVar 0) (maC (mVar 1) (maC (mVar 4) maN)))) (gNm 9))
def b__law_right_13 : MS := (sIf (mtOr (mtB (mBin oNe (mLc (iLs (mVar 9)) (gNm 12) (mtB (mBin (oOwx own_cs oEq false a_U_eqU_) (mVar 2) (mVar 12))) (mVar 12) [12]) (mLst maN))) (mtB (mBin oNe (mLc (iLs (mVar 9)) (gNm 12) (mtNot (mtB (mBin (oOwx own_cs oNe true a_U_eqU_) (mVar 2) (mVar 12)))) (mVar 12) [12]) (mLst maN)))) (sRet (mC (.bl false))) sNx)
def b__law_right_14 : MS := (sRet (mAnd (mBin (oOwx own_cs oEq false a_U_eqU_) (mVar 2) (mCall f__law_made (maC (mVar 1) maN))) (mNot (mBin (oOwx own_cs oNe true a_U_eqU_) (mVar 2) (mCm "Program" f_Program_of g_Program_of_starts (maC (mPrp a_size (mVar 2)) (maC (mPrp a_procedures (mVar 2)) maN)) (maC (mPrp a_starts (mVar 2)) maN))))))
def b__law_right : MS := (sSeq b__law_right_0 (sSeq b__law_right_1 (sSeq b__law_right_2 (sSeq b__law_right_3 (sSeq b__law_right_4 (sSeq b__law_right_5 (sSeq b__law_right_6 (sSeq b__law_right_7 (sSeq b__law_right_8 (sSeq b__law_right_9 (sSeq b__law_right_10 (sSeq b__law_right_11 (sSeq b__law_right_12 (sSeq b__law_right_13 b__law_right_14))))))))))))))
def f__law_right : List IV → M IV := mDef 13 b__law_right
def b__law_urn : MS := (sSeq (sAsg (mIf (mtB (mBin oLt (mVar 1) (mB bLen (maC (mVar 0) maN)))) (mBin oIx (mVar 0) (mVar 1)) (mBin oAdd (mBin oMul (mC (.int 83)) (mVar 1)) (mC (.int 37)))) (gNm 2))
    (sSeq (sAsg (mBin oMod (mB bInt (maC (mB bAbs (maC (mVar 2) maN)) maN)) (mBin oPow (mBin oPow (mC (.int 10)) (mC (.int 60))) (mC (.int 9)))) (gNm 3))
    (sSeq (sAsg (mBin oMod (mB bInt (maC (mBin oAdd (mBin oAdd (mBin oAdd (mBin oMul (mVar 3) (mC (.int 104651))) (mBin oMul (mC (.int 15331)) (mVar 1))) (mBin oMul (mC (.int 43)) (mB bInt (maC (mBin oLt (mVar 2) (mC (.int 0))) maN)))) (mC (.int 19))) maN)) (mC (.int 2305843009213693921))) (gNm 4))
    (sRet (mLst (maC (mB bMax (maC (mC (.int 0)) (maC (mBin oSub (mVar 3) (mBin oPow (mC (.int 10)) (mC (.int 17)))) maN))) (maC (mVar 4) (maC (mC (.int 0)) maN))))))))
def f__law_urn : List IV → M IV := mDef 5 b__law_urn
def b_law_0 : MS := (sGc (sFor (iRg1 (maC (mB bMax (maC (mC (.int 1)) (maC (mB bMin (maC (mC (.int 8)) (maC (mB bLen (maC (mVar 0) maN)) maN))) maN))) maN)) (gNm 1) (sIf (mtNot (mtB (mCall f__law_right (maC (mCall f__law_urn (maC (mVar 0) (maC (mVar 1) maN))) maN)))) (sRet (mC (.bl false))) sNx)))
def b_law_1 : MS := (sAsg (mMk "Procedure" f_Procedure_U_initU_ g_Procedure_ends (maC (mC (.str "main")) (maC (mC (.int 2)) (maC (mTup (maC (mTup (maC (mC (.str "call")) (maC (mC (.int 0)) (maC (mC (.str "q")) (maC (mC (.int 1)) maN))))) (maC (mTup (maC (mC (.str "set")) (maC (mC (.int 1)) (maC (mTup (maC (mC (.int 4)) (maC (mC .non) (maC (mC (.int 0)) (maC (mC (.int 1)) (maC (mC (.int 2)) maN)))))) (maC (mC (.int 0)) maN))))) maN))) maN))) (maC (mTup (maC (mC (.int 0)) (maC (mC (.int 1)) maN))) maN)) (gNm 2))
def b_law_2 : MS := (sAsg (mMkS "Program" 1 f_Program_U_initU_ g_Program (maC (mC (.int 5)) (maC (mVar 2) (maC (mMk "Procedure" f_Procedure_U_initU_ g_Procedure (maC (mC (.str "q")) (maC (mC (.int 1)) (maC (mTup (maC (mTup (maC (mC (.str "call")) (maC (mC (.int 0)) (maC (mC (.str "main")) (maC (mC (.int 0)) maN))))) maN)) maN))) maN) maN))) maN) (gNm 3))
def b_law_3 : MS := (sAsg (mLst (maC (mPrp a_size (mVar 3)) (maC (mPrp a_starts (mVar 3)) (maC (mPrp a_names (mVar 3)) (maC (mPrp a_ends (mBin (oIxO a_U_getitemU_) (mVar 3) (mC (.str "q")))) (maC (mB (bLenO a_U_lenU_) (maC (mVar 3) maN)) (maC (mBin (oInO false a_U_containsU_) (mC (.str "q")) (mVar 3)) (maC (mB (bStrO a_U_strU_) (maC (mVar 3) maN)) maN)))))))) (gNm 4))
def b_law_4 : MS := (sRet (mBin oEq (mVar 4) (mLst (maC (mC (.int 5)) (maC (mTup (maC (mC (.int 0)) maN)) (maC (mTup (maC (mC (.str "main")) (maC (mC (.str "q")) maN))) (maC (mTup maN) (maC (mC (.int 2)) (maC (mC (.bl true)) (maC (mC (.str "program of 2 procedures, 3 moves, 5 numbers")) maN))))))))))
def b_law : MS := (sSeq b_law_0 (sSeq b_law_1 (sSeq b_law_2 (sSeq b_law_3 b_law_4))))
def f_law : List IV → M IV := mDef 5 b_law
end K04

set_option Elab.async false
set_option linter.all false
set_option maxRecDepth 100000
set_option maxHeartbeats 4000000
namespace K04
open Sm L2 PySem PySem.Spec
/-! ### the package's judges, procedures, by values -/
theorem take_ok {st : Hs} {a : Nat} (h : Urn st a) (t : Int) (h0 : 0 < t) (h1 : t < 1073741824) : ∃ n st', f__law_take [.ref a, .int t] st = .ok (.int n) st' ∧ 0 ≤ n ∧ n < t ∧ Gr a st st' ∧ st'.length = st.length := by
  have e3 : ∀ o : IO, (st.set a o)[a]? = some o := fun o => List.getElem?_set_self h.lt
  obtain ⟨⟨o, h2, g, s, c, rfl⟩, hni⟩ := id h
  by_cases hg : 0 < g
  · refine ⟨g % t, st.set a (.lst [.int (g / t), .int s, .int c]), ?_, (emod_bd g t h0).1, (emod_bd g t h0).2, Gr.set h ⟨_, _, _, rfl⟩, by simp⟩
    simp [f__law_take, b__law_take, mDef, endR, sRet, sRetN, sE, sSeq, sNx, sIf, sAsg, sExp, asNx, sPar2, sPar3, mVar, mC, mBin, bnd, lf, mB, maC, maN, Sm.ret, Sm.stuck, gNm, gTp, gsC, gsN, gSb, mtB, asB, mtAnd, mtOr, mtNot, mAnd, mOr, mNot, mIf, mCall, mTup, mLst, mDct, mNeg, mIsi, mChain, mSl, mNo, mPt, newL, bg1, bg2, bg3, bg4, bg5, bg6, bg7, bg8, bg9, bg10, bg11, bg12, bg13, bg14, bg15, bg16, bg17, bg18, bg19, bg20, oIx, seqOf, lstOf, ioL, h2, at0, at1, at2, oGt, hg, bInt, oMod, oFdv, h0, h1, setI, ixN]
  · obtain ⟨x, hx⟩ : ∃ x, x = (s + 1299709 * (c + 1)) % 2305843009213693951 := ⟨_, rfl⟩
    obtain ⟨y, hy⟩ : ∃ y, y = (x * x + 7919 * (c + 1)) % 1000000000039 := ⟨_, rfl⟩
    have b1 : 0 ≤ x ∧ x < 2305843009213693951 := by rw [hx]; exact emod_bd _ _ (by decide)
    have b2 : 0 ≤ y ∧ y < 1000000000039 := by rw [hy]; exact emod_bd _ _ (by decide)
    have x1 : -18446744073709551616 < x := by omega
    have x2 : x < 18446744073709551616 := by omega
    have y1 : -18446744073709551616 < y := by omega
    have y2 : y < 18446744073709551616 := by omega
    refine ⟨(y * y + x) % 998244353 / 61 % t, st.set a (.lst [.int g, .int s, .int (c + 1)]), ?_, (emod_bd _ t h0).1, (emod_bd _ t h0).2, Gr.set h ⟨_, _, _, rfl⟩, by simp⟩
    simp [f__law_take, b__law_take, mDef, endR, sRet, sRetN, sE, sSeq, sNx, sIf, sAsg, sExp, asNx, sPar2, sPar3, mVar, mC, mBin, bnd, lf, mB, maC, maN, Sm.ret, Sm.stuck, gNm, gTp, gsC, gsN, gSb, mtB, asB, mtAnd, mtOr, mtNot, mAnd, mOr, mNot, mIf, mCall, mTup, mLst, mDct, mNeg, mIsi, mChain, mSl, mNo, mPt, newL, bg1, bg2, bg3, bg4, bg5, bg6, bg7, bg8, bg9, bg10, bg11, bg12, bg13, bg14, bg15, bg16, bg17, bg18, bg19, bg20, oIx, seqOf, lstOf, ioL, h2, at0, at1, at2, oGt, hg, bInt, oMod, oFdv, h0, h1, setI, ixN, oAdd, oMul, e3, ← hx, ← hy, x1, x2, y1, y2]
theorem int_ok {st : Hs} {v : IV} (h : knI st v = true) : f_is_integer [v] st = .ok (.bl (isInt v)) st := by
  cases v with
  | int i =>
    by_cases q : -10000000000000000000000000000000000000000 < i <;> simp [f_is_integer, b_is_integer, mDef, endR, sRet, sRetN, sE, sSeq, sNx, sIf, sAsg, sExp, asNx, sPar2, sPar3, mVar, mC, mBin, bnd, lf, mB, maC, maN, Sm.ret, Sm.stuck, gNm, gTp, gsC, gsN, gSb, mtB, asB, mtAnd, mtOr, mtNot, mAnd, mOr, mNot, mIf, mCall, mTup, mLst, mDct, mNeg, mIsi, mChain, mSl, mNo, mPt, newL, bg1, bg2, bg3, bg4, bg5, bg6, bg7, bg8, bg9, bg10, bg11, bg12, bg13, bg14, bg15, bg16, bg17, bg18, bg19, bg20, tyName, subTy, oLt, isInt, q]
  | ref a =>
    rcases refK_some (show refK st[a]? = true from h) with ⟨xs, e⟩ | ⟨kvs, e⟩ <;> simp [f_is_integer, b_is_integer, mDef, endR, sRet, sRetN, sE, sSeq, sNx, sIf, sAsg, sExp, asNx, sPar2, sPar3, mVar, mC, mBin, bnd, lf, mB, maC, maN, Sm.ret, Sm.stuck, gNm, gTp, gsC, gsN, gSb, mtB, asB, mtAnd, mtOr, mtNot, mAnd, mOr, mNot, mIf, mCall, mTup, mLst, mDct, mNeg, mIsi, mChain, mSl, mNo, mPt, newL, bg1, bg2, bg3, bg4, bg5, bg6, bg7, bg8, bg9, bg10, bg11, bg12, bg13, bg14, bg15, bg16, bg17, bg18, bg19, bg20, tyName, subTy, e, isInt]
  | obj c ns xs => cases h
  | fd _ _ => cases h
  | cls _ => cases h
  | _ => simp [f_is_integer, b_is_integer, mDef, endR, sRet, sRetN, sE, sSeq, sNx, sIf, sAsg, sExp, asNx, sPar2, sPar3, mVar, mC, mBin, bnd, lf, mB, maC, maN, Sm.ret, Sm.stuck, gNm, gTp, gsC, gsN, gSb, mtB, asB, mtAnd, mtOr, mtNot, mAnd, mOr, mNot, mIf, mCall, mTup, mLst, mDct, mNeg, mIsi, mChain, mSl, mNo, mPt, newL, bg1, bg2, bg3, bg4, bg5, bg6, bg7, bg8, bg9, bg10, bg11, bg12, bg13, bg14, bg15, bg16, bg17, bg18, bg19, bg20, tyName, subTy, isInt]
theorem below_ok {st : Hs} {v : IV} {l : Int} (h : knI st v = true) : f_is_below [v, .int l] st = .ok (.bl (isBelow v l)) st := by
  have e : runC f_is_integer [v] st = .ok (.bl (isInt v)) st := run_same (fun st k => int_ok (kns_mem k (by simp))) (by simp [knIs, h])
  cases v with
  | int i =>
    by_cases q : isInt (.int i) = true
    · by_cases q0 : 0 ≤ i <;> simp [f_is_below, b_is_below, mDef, endR, sRet, sRetN, sE, sSeq, sNx, sIf, sAsg, sExp, asNx, sPar2, sPar3, mVar, mC, mBin, bnd, lf, mB, maC, maN, Sm.ret, Sm.stuck, gNm, gTp, gsC, gsN, gSb, mtB, asB, mtAnd, mtOr, mtNot, mAnd, mOr, mNot, mIf, mCall, mTup, mLst, mDct, mNeg, mIsi, mChain, mSl, mNo, mPt, newL, bg1, bg2, bg3, bg4, bg5, bg6, bg7, bg8, bg9, bg10, bg11, bg12, bg13, bg14, bg15, bg16, bg17, bg18, bg19, bg20, e, q, oLe, oLt, isBelow, q0] <;> simp [isInt] at q <;> simp [q]
    · have q2 : isBelow (.int i) l = false := by
        simp only [isInt, Bool.not_eq_true] at q
        simp only [isBelow, q, Bool.false_and]
      simp [f_is_below, b_is_below, mDef, endR, sRet, sRetN, sE, sSeq, sNx, sIf, sAsg, sExp, asNx, sPar2, sPar3, mVar, mC, mBin, bnd, lf, mB, maC, maN, Sm.ret, Sm.stuck, gNm, gTp, gsC, gsN, gSb, mtB, asB, mtAnd, mtOr, mtNot, mAnd, mOr, mNot, mIf, mCall, mTup, mLst, mDct, mNeg, mIsi, mChain, mSl, mNo, mPt, newL, bg1, bg2, bg3, bg4, bg5, bg6, bg7, bg8, bg9, bg10, bg11, bg12, bg13, bg14, bg15, bg16, bg17, bg18, bg19, bg20, e, q, q2]
  | _ => simp [f_is_below, b_is_below, mDef, endR, sRet, sRetN, sE, sSeq, sNx, sIf, sAsg, sExp, asNx, sPar2, sPar3, mVar, mC, mBin, bnd, lf, mB, maC, maN, Sm.ret, Sm.stuck, gNm, gTp, gsC, gsN, gSb, mtB, asB, mtAnd, mtOr, mtNot, mAnd, mOr, mNot, mIf, mCall, mTup, mLst, mDct, mNeg, mIsi, mChain, mSl, mNo, mPt, newL, bg1, bg2, bg3, bg4, bg5, bg6, bg7, bg8, bg9, bg10, bg11, bg12, bg13, bg14, bg15, bg16, bg17, bg18, bg19, bg20, e, isInt, isBelow]
theorem below_run {st : Hs} {v : IV} {l : Int} (h : knI st v = true) : runC f_is_below [v, .int l] st = .ok (.bl (isBelow v l)) st :=
  run_same (fun st k => below_ok (kns_mem k (by simp))) (by simp [knIs, h, knI])
theorem name_ok {st : Hs} {v : IV} (h : knI st v = true) : ∃ l, f_is_name [v] st = .ok (.bl (isName v)) (st ++ l) := by
  cases v with
  | str z =>
    by_cases q : 0 < z.length ∧ z.length ≤ 8
    · have e : ∃ l, goLc (.txt z) (gNm 1) mtYes (mBin oIn (mVar 1) (mC (.str "abcdefghijklmnopqrstuvwxyz"))) [some (.str z), none] z.cps.size 0 [] st = .ok ([] ++ (List.range' 0 z.cps.size).map fun i => IV.bl (decide (z.cps.getD i 0 ∈ LET.cps.toList))) (st ++ l) := by
        refine goLc_map (F := fun i => IV.bl (decide (z.cps.getD i 0 ∈ LET.cps.toList))) (fun _ => True) (fun _ _ _ => trivial) (fun _ _ => rfl) (fun i st hi _ => ?_) z.cps.size 0 [] st (Nat.zero_add _) (Nat.le_trans q.2 (by decide)) rfl trivial
        have hi : i < z.cps.size := hi
        refine ⟨.str ⟨#[z.cps[i]]⟩, [some (.str z), some (.str ⟨#[z.cps[i]]⟩)], [], by simp [Src.item, hi], rfl, ?_⟩
        simp [mDef, endR, sRet, sRetN, sE, sSeq, sNx, sIf, sAsg, sExp, asNx, sPar2, sPar3, mVar, mC, mBin, bnd, lf, mB, maC, maN, Sm.ret, Sm.stuck, gNm, gTp, gsC, gsN, gSb, mtB, asB, mtAnd, mtOr, mtNot, mAnd, mOr, mNot, mIf, mCall, mTup, mLst, mDct, mNeg, mIsi, mChain, mSl, mNo, mPt, newL, bg1, bg2, bg3, bg4, bg5, bg6, bg7, bg8, bg9, bg10, bg11, bg12, bg13, bg14, bg15, bg16, bg17, bg18, bg19, bg20, oIn, inI, hi, Array.getD, LET]
      obtain ⟨l, e⟩ := e
      have ez : (List.range' 0 z.cps.size).map (fun i => IV.bl (decide (z.cps.getD i 0 ∈ LET.cps.toList))) = (z.cps.toList.map fun c => decide (c ∈ LET.cps.toList)).map IV.bl := by
        apply List.ext_getElem
        · simp
        · intro i h1 h2
          simp at h1
          simp [h1, Array.getD]
      rw [ez, List.nil_append] at e
      have hb : z.length ≤ big := Nat.le_trans q.2 (by decide)
      have q2 : (z.length : Int) ≤ 8 := by omega
      have q3 : (0 : Int) < z.length := by omega
      have en : isName (.str z) = (z.cps.toList.map fun c => decide (c ∈ LET.cps.toList)).all id := by
        unfold isName
        simp [q.1, q.2]
      rw [en]
      generalize (z.cps.toList.map fun c => decide (c ∈ LET.cps.toList)) = bs at e ⊢
      refine ⟨l ++ [.lst (bs.map IV.bl)], ?_⟩
      simp [f_is_name, b_is_name, mDef, endR, sRet, sRetN, sE, sSeq, sNx, sIf, sAsg, sExp, asNx, sPar2, sPar3, mVar, mC, mBin, bnd, lf, mB, maC, maN, Sm.ret, Sm.stuck, gNm, gTp, gsC, gsN, gSb, mtB, asB, mtAnd, mtOr, mtNot, mAnd, mOr, mNot, mIf, mCall, mTup, mLst, mDct, mNeg, mIsi, mChain, mSl, mNo, mPt, newL, bg1, bg2, bg3, bg4, bg5, bg6, bg7, bg8, bg9, bg10, bg11, bg12, bg13, bg14, bg15, bg16, bg17, bg18, bg19, bg20, tyName, subTy, bLen, hb, oLt, oLe, q2, q3, q.1, q.2, mLc, iTx, Src.n, wipeI, e, bAll, lstOf, ioL, bls_map, - List.map_map, - List.all_map]
    · have en : isName (.str z) = false := by
        unfold isName
        by_cases q1 : 0 < z.length
        · have q2 : ¬ z.length ≤ 8 := fun k => q ⟨q1, k⟩
          simp [q2]
        · simp [q1]
      rw [en]
      refine ⟨[], ?_⟩
      have hb : z.length ≤ big := of_decide_eq_true h
      · by_cases q1 : 0 < z.length
        · have q2 : ¬ (z.length : Int) ≤ 8 := fun k => q ⟨q1, by omega⟩
          have q3 : ¬ z.length ≤ 8 := fun k => q ⟨q1, k⟩
          simp [f_is_name, b_is_name, mDef, endR, sRet, sRetN, sE, sSeq, sNx, sIf, sAsg, sExp, asNx, sPar2, sPar3, mVar, mC, mBin, bnd, lf, mB, maC, maN, Sm.ret, Sm.stuck, gNm, gTp, gsC, gsN, gSb, mtB, asB, mtAnd, mtOr, mtNot, mAnd, mOr, mNot, mIf, mCall, mTup, mLst, mDct, mNeg, mIsi, mChain, mSl, mNo, mPt, newL, bg1, bg2, bg3, bg4, bg5, bg6, bg7, bg8, bg9, bg10, bg11, bg12, bg13, bg14, bg15, bg16, bg17, bg18, bg19, bg20, tyName, subTy, bLen, hb, oLt, oLe, q1, q2, q3]
        · simp [f_is_name, b_is_name, mDef, endR, sRet, sRetN, sE, sSeq, sNx, sIf, sAsg, sExp, asNx, sPar2, sPar3, mVar, mC, mBin, bnd, lf, mB, maC, maN, Sm.ret, Sm.stuck, gNm, gTp, gsC, gsN, gSb, mtB, asB, mtAnd, mtOr, mtNot, mAnd, mOr, mNot, mIf, mCall, mTup, mLst, mDct, mNeg, mIsi, mChain, mSl, mNo, mPt, newL, bg1, bg2, bg3, bg4, bg5, bg6, bg7, bg8, bg9, bg10, bg11, bg12, bg13, bg14, bg15, bg16, bg17, bg18, bg19, bg20, tyName, subTy, bLen, hb, oLt, oLe, q1]
  | ref a =>
    refine ⟨[], ?_⟩
    rcases refK_some (show refK st[a]? = true from h) with ⟨xs, e⟩ | ⟨kvs, e⟩ <;> simp [f_is_name, b_is_name, mDef, endR, sRet, sRetN, sE, sSeq, sNx, sIf, sAsg, sExp, asNx, sPar2, sPar3, mVar, mC, mBin, bnd, lf, mB, maC, maN, Sm.ret, Sm.stuck, gNm, gTp, gsC, gsN, gSb, mtB, asB, mtAnd, mtOr, mtNot, mAnd, mOr, mNot, mIf, mCall, mTup, mLst, mDct, mNeg, mIsi, mChain, mSl, mNo, mPt, newL, bg1, bg2, bg3, bg4, bg5, bg6, bg7, bg8, bg9, bg10, bg11, bg12, bg13, bg14, bg15, bg16, bg17, bg18, bg19, bg20, tyName, subTy, e, isName]
  | obj c ns xs => cases h
  | fd _ _ => cases h
  | cls _ => cases h
  | _ => exact ⟨[], by simp [f_is_name, b_is_name, mDef, endR, sRet, sRetN, sE, sSeq, sNx, sIf, sAsg, sExp, asNx, sPar2, sPar3, mVar, mC, mBin, bnd, lf, mB, maC, maN, Sm.ret, Sm.stuck, gNm, gTp, gsC, gsN, gSb, mtB, asB, mtAnd, mtOr, mtNot, mAnd, mOr, mNot, mIf, mCall, mTup, mLst, mDct, mNeg, mIsi, mChain, mSl, mNo, mPt, newL, bg1, bg2, bg3, bg4, bg5, bg6, bg7, bg8, bg9, bg10, bg11, bg12, bg13, bg14, bg15, bg16, bg17, bg18, bg19, bg20, tyName, subTy, isName]⟩
theorem name_run {st : Hs} {v : IV} (h : knI st v = true) : ∃ l, runC f_is_name [v] st = .ok (.bl (isName v)) (st ++ l) :=
  run_of (fun st k => name_ok (kns_mem k (by simp))) (by simp [knIs, h])
theorem take_run {st : Hs} {a : Nat} (h : Urn st a) (t : Int) (h0 : 0 < t) (h1 : t < 1073741824) : ∃ n st', runC f__law_take [.ref a, .int t] st = .ok (.int n) st' ∧ 0 ≤ n ∧ n < t ∧ Gr a st st' ∧ st'.length = st.length := by
  obtain ⟨n, st', e, r⟩ := take_ok h t h0 h1
  exact ⟨n, st', by rw [runC_ref]; exact e, r⟩
theorem one_run {st : Hs} {a b : Nat} {xs : List IV} (h : Urn st a) (hb : st[b]? = some (.lst xs)) (ne : b ≠ a) (h0 : 0 < xs.length) (h1 : xs.length < 1073741824) :
    ∃ x st', runC f__law_one [.ref a, .ref b] st = .ok x st' ∧ x ∈ xs ∧ Gr a st st' ∧ st'.length = st.length := by
  obtain ⟨n, st', e, n0, n1, g, gl⟩ := take_run h (xs.length : Int) (by omega) (by omega)
  have hb' := g.lst hb ne
  have hn : n.toNat < xs.length := by omega
  refine ⟨xs[n.toNat], st', ?_, List.getElem_mem hn, g, gl⟩
  rw [runC_ref]
  simp [f__law_one, b__law_one, mDef, endR, sRet, sRetN, sE, sSeq, sNx, sIf, sAsg, sExp, asNx, sPar2, sPar3, mVar, mC, mBin, bnd, lf, mB, maC, maN, Sm.ret, Sm.stuck, gNm, gTp, gsC, gsN, gSb, mtB, asB, mtAnd, mtOr, mtNot, mAnd, mOr, mNot, mIf, mCall, mTup, mLst, mDct, mNeg, mIsi, mChain, mSl, mNo, mPt, newL, bg1, bg2, bg3, bg4, bg5, bg6, bg7, bg8, bg9, bg10, bg11, bg12, bg13, bg14, bg15, bg16, bg17, bg18, bg19, bg20, bLen, seqOf, lstOf, ioL, hb, e, oIx, hb', at_int _ n0, hn]
theorem one_new {st : Hs} {a : Nat} (xs : List IV) (h : Urn st a) (h0 : 0 < xs.length) (h1 : xs.length < 1073741824) :
    ∃ x st', runC f__law_one [.ref a, .ref st.length] (st ++ [.lst xs]) = .ok x st' ∧ x ∈ xs ∧ Gr a st st' := by
  obtain ⟨x, st', e, m, g, _⟩ := one_run (st := st ++ [.lst xs]) (a := a) (b := st.length) (xs := xs) (Gr.app h).urn (by simp) (by have := h.lt; omega) h0 h1
  exact ⟨x, st', e, m, (Gr.app h).trans g⟩
section
variable {sz : Nat} {nm : IV} {p : Int} {ms : List IV} {os : List Int}
end
theorem name_T {v : IV} (h : Nm v) (st : Hs) : runC f_is_name [v] st = .ok (.bl true) st := clT (by simp [clIs, h.cl]) (by
  obtain ⟨l, e⟩ := name_ok (st := []) (h.kn [])
  rw [h.is] at e
  exact ⟨_, e⟩) st
theorem below_T {v : IV} {l : Int} (h : Ix v l) (hl : l ≤ 12) (st : Hs) : runC f_is_below [v, .int l] st = .ok (.bl true) st := by
  rw [below_run (h.kn st), h.is hl]
theorem row_T {es : List IV} {sz : Nat} (hl : es.length = sz) (h0 : 1 ≤ sz) (h1 : sz ≤ 5) (he : ∀ e ∈ es, e = .non ∨ Ix e sz) (c : clIs es = true) (st : Hs) : runC f_is_table_row [.tup es] st = .ok (.bl true) st := clT (by simp [clIs, clI, c]) (by
  have hb : es.length ≤ big := Nat.le_trans (by omega : es.length ≤ 5) (by decide)
  obtain ⟨st', e⟩ := all_T (i := 0) (j := 1) (m := mOr (mBin oIsN (mVar 1) (mC .non)) (mCall f_is_below (maC (mVar 1) (maC (mB bLen (maC (mVar 0) maN)) maN)))) (env := [some (.tup es), none]) (ys := es) (st := []) rfl (fun y hy st => by
    rcases he y hy with rfl | q
    · simp [mDef, endR, sRet, sRetN, sE, sSeq, sNx, sIf, sAsg, sExp, asNx, sPar2, sPar3, mVar, mC, mBin, bnd, lf, mB, maC, maN, Sm.ret, Sm.stuck, gNm, gTp, gsC, gsN, gSb, mtB, asB, mtAnd, mtOr, mtNot, mAnd, mOr, mNot, mIf, mCall, mTup, mLst, mDct, mNeg, mIsi, mChain, mSl, mNo, mPt, newL, bg1, bg2, bg3, bg4, bg5, bg6, bg7, bg8, bg9, bg10, bg11, bg12, bg13, bg14, bg15, bg16, bg17, bg18, bg19, bg20, oIsN]
    · have e1 := below_T (l := (sz : Int)) q (by omega) st
      obtain ⟨i, rfl, _⟩ := q
      simp [mDef, endR, sRet, sRetN, sE, sSeq, sNx, sIf, sAsg, sExp, asNx, sPar2, sPar3, mVar, mC, mBin, bnd, lf, mB, maC, maN, Sm.ret, Sm.stuck, gNm, gTp, gsC, gsN, gSb, mtB, asB, mtAnd, mtOr, mtNot, mAnd, mOr, mNot, mIf, mCall, mTup, mLst, mDct, mNeg, mIsi, mChain, mSl, mNo, mPt, newL, bg1, bg2, bg3, bg4, bg5, bg6, bg7, bg8, bg9, bg10, bg11, bg12, bg13, bg14, bg15, bg16, bg17, bg18, bg19, bg20, oIsN, bLen, seqOf, hl, e1]) hb
  refine ⟨st', ?_⟩
  unfold f_is_table_row b_is_table_row
  generalize mB bAll (maC (mLc (iTp (mVar 0)) (gNm 1) mtYes (mOr (mBin oIsN (mVar 1) (mC .non)) (mCall f_is_below (maC (mVar 1) (maC (mB bLen (maC (mVar 0) maN)) maN)))) [1]) maN) = mm at e ⊢
  have l1 : 0 < es.length := by omega
  have l2 : es.length ≤ 5 := by omega
  have l3 : (0 : Int) < es.length := by omega
  have l4 : (es.length : Int) ≤ 5 := by omega
  simp [mDef, endR, sRet, sRetN, sE, sSeq, sNx, sIf, sAsg, sExp, asNx, sPar2, sPar3, mVar, mC, mBin, bnd, lf, mB, maC, maN, Sm.ret, Sm.stuck, gNm, gTp, gsC, gsN, gSb, mtB, asB, mtAnd, mtOr, mtNot, mAnd, mOr, mNot, mIf, mCall, mTup, mLst, mDct, mNeg, mIsi, mChain, mSl, mNo, mPt, newL, bg1, bg2, bg3, bg4, bg5, bg6, bg7, bg8, bg9, bg10, bg11, bg12, bg13, bg14, bg15, bg16, bg17, bg18, bg19, bg20, tyName, subTy, bLen, seqOf, oLt, oLe, l1, l2, l3, l4, e]) st
theorem move_T {p : Int} {sz : Nat} {m : IV} (h : Mv p sz m) (hp : p ≤ 6) (z0 : 1 ≤ sz) (z1 : sz ≤ 5) (st : Hs) : runC f_is_move [m, .int p] st = .ok (.bl true) st := clT (by simp [clIs, clI, h.cl]) (by
  refine ⟨[], ?_⟩
  rcases h with ⟨h, t, es, rfl, h1, h2, hl, h3⟩ | ⟨h, n, t, rfl, h1, h2, h3⟩
  · have c : clIs es = true := cls_all fun e he => (h3 e he).elim (fun q => by rw [q]; rfl) (fun q => q.cl)
    have e1 := below_T h1 (by omega) []
    have e2 := below_T h2 (by omega) []
    have e3 := row_T hl z0 z1 h3 c []
    simp [f_is_move, b_is_move, mDef, endR, sRet, sRetN, sE, sSeq, sNx, sIf, sAsg, sExp, asNx, sPar2, sPar3, mVar, mC, mBin, bnd, lf, mB, maC, maN, Sm.ret, Sm.stuck, gNm, gTp, gsC, gsN, gSb, mtB, asB, mtAnd, mtOr, mtNot, mAnd, mOr, mNot, mIf, mCall, mTup, mLst, mDct, mNeg, mIsi, mChain, mSl, mNo, mPt, newL, bg1, bg2, bg3, bg4, bg5, bg6, bg7, bg8, bg9, bg10, bg11, bg12, bg13, bg14, bg15, bg16, bg17, bg18, bg19, bg20, tyName, subTy, bLen, seqOf, oNe, eqI_int, oIx, at_nat, at0, at1, at2, e1, e2, sMatch, cC, cN, pSeq, psC, psN, pVal, pCap, eqP_ss, bindI, e3, show atI [IV.str "set", h, IV.tup es, t] 3 = some t from rfl]
  · have e1 := below_T h1 (by omega) []
    have e2 := below_T h3 (by omega) []
    have e3 := name_T h2 []
    simp [f_is_move, b_is_move, mDef, endR, sRet, sRetN, sE, sSeq, sNx, sIf, sAsg, sExp, asNx, sPar2, sPar3, mVar, mC, mBin, bnd, lf, mB, maC, maN, Sm.ret, Sm.stuck, gNm, gTp, gsC, gsN, gSb, mtB, asB, mtAnd, mtOr, mtNot, mAnd, mOr, mNot, mIf, mCall, mTup, mLst, mDct, mNeg, mIsi, mChain, mSl, mNo, mPt, newL, bg1, bg2, bg3, bg4, bg5, bg6, bg7, bg8, bg9, bg10, bg11, bg12, bg13, bg14, bg15, bg16, bg17, bg18, bg19, bg20, tyName, subTy, bLen, seqOf, oNe, eqI_int, oIx, at_nat, at0, at1, at2, e1, e2, sMatch, cC, cN, pSeq, psC, psN, pVal, pCap, eqP_ss, callset, bindI, e3, show atI [IV.str "call", h, n, t] 3 = some t from rfl]) st
theorem lengths_ok {p : Int} {sz : Nat} {ms : List IV} (h : ∀ m ∈ ms, Mv p sz m) (st : Hs) : ∃ k l st', f_lengths_of [.tup ms] st = .ok (.ref k) st' ∧ st'[k]? = some (.lst l) ∧ l.length ≤ 1 := by
  obtain ⟨acc, e, ha⟩ := goSc_one (s := .seq (.tup ms) ms.length) (g := gNm 1) (c := mtB (mBin oEq (mBin oIx (mVar 1) (mC (.int 0))) (mC (.str "set")))) (m := mB bLen (maC (mBin oIx (mVar 1) (mC (.int 2))) maN)) (env := [some (.tup ms), none]) (st := st) (y := (sz : Int)) (by simp [Src.fin, seqOf]) (fun i hi => by
    have hi : i < ms.length := hi
    rcases h ms[i] (List.getElem_mem hi) with ⟨h, t, es, em, h1, h2, hl, h3⟩ | ⟨h, n, t, em, h1, h2, h3⟩
    · refine ⟨ms[i], [some (.tup ms), some ms[i]], true, by simp [Src.item, seqOf, hi], rfl, ?_, fun _ => ?_⟩
      · rw [em]; simp [mDef, endR, sRet, sRetN, sE, sSeq, sNx, sIf, sAsg, sExp, asNx, sPar2, sPar3, mVar, mC, mBin, bnd, lf, mB, maC, maN, Sm.ret, Sm.stuck, gNm, gTp, gsC, gsN, gSb, mtB, asB, mtAnd, mtOr, mtNot, mAnd, mOr, mNot, mIf, mCall, mTup, mLst, mDct, mNeg, mIsi, mChain, mSl, mNo, mPt, newL, bg1, bg2, bg3, bg4, bg5, bg6, bg7, bg8, bg9, bg10, bg11, bg12, bg13, bg14, bg15, bg16, bg17, bg18, bg19, bg20, oIx, seqOf, at0, oEq, eqI_str]
      · rw [em]; simp [mDef, endR, sRet, sRetN, sE, sSeq, sNx, sIf, sAsg, sExp, asNx, sPar2, sPar3, mVar, mC, mBin, bnd, lf, mB, maC, maN, Sm.ret, Sm.stuck, gNm, gTp, gsC, gsN, gSb, mtB, asB, mtAnd, mtOr, mtNot, mAnd, mOr, mNot, mIf, mCall, mTup, mLst, mDct, mNeg, mIsi, mChain, mSl, mNo, mPt, newL, bg1, bg2, bg3, bg4, bg5, bg6, bg7, bg8, bg9, bg10, bg11, bg12, bg13, bg14, bg15, bg16, bg17, bg18, bg19, bg20, oIx, seqOf, at2, bLen, hl]
    · refine ⟨ms[i], [some (.tup ms), some ms[i]], false, by simp [Src.item, seqOf, hi], rfl, ?_, fun q => by cases q⟩
      rw [em]; simp [mDef, endR, sRet, sRetN, sE, sSeq, sNx, sIf, sAsg, sExp, asNx, sPar2, sPar3, mVar, mC, mBin, bnd, lf, mB, maC, maN, Sm.ret, Sm.stuck, gNm, gTp, gsC, gsN, gSb, mtB, asB, mtAnd, mtOr, mtNot, mAnd, mOr, mNot, mIf, mCall, mTup, mLst, mDct, mNeg, mIsi, mChain, mSl, mNo, mPt, newL, bg1, bg2, bg3, bg4, bg5, bg6, bg7, bg8, bg9, bg10, bg11, bg12, bg13, bg14, bg15, bg16, bg17, bg18, bg19, bg20, oIx, seqOf, at0, oEq, eqI_str, callset]) ms.length 0 [] (Nat.zero_add _) (.inl rfl)
  have hl : acc.length ≤ 1 := by rcases ha with rfl | rfl <;> simp
  have hl2 : acc.length < 64 := by omega
  refine ⟨st.length, acc.map .int, st ++ [.lst (acc.map .int)], ?_, by simp, by simpa using hl⟩
  unfold f_lengths_of b_lengths_of mDef
  generalize mtB (mBin oEq (mBin oIx (mVar 1) (mC (.int 0))) (mC (.str "set"))) = cc at e ⊢
  generalize mB bLen (maC (mBin oIx (mVar 1) (mC (.int 2))) maN) = mm at e ⊢
  simp [mDef, endR, sRet, sRetN, sE, sSeq, sNx, sIf, sAsg, sExp, asNx, sPar2, sPar3, mVar, mC, mBin, bnd, lf, mB, maC, maN, Sm.ret, Sm.stuck, gNm, gTp, gsC, gsN, gSb, mtB, asB, mtAnd, mtOr, mtNot, mAnd, mOr, mNot, mIf, mCall, mTup, mLst, mDct, mNeg, mIsi, mChain, mSl, mNo, mPt, newL, bg1, bg2, bg3, bg4, bg5, bg6, bg7, bg8, bg9, bg10, bg11, bg12, bg13, bg14, bg15, bg16, bg17, bg18, bg19, bg20, mSsc, iTp, wipeI, Src.n, e, hl2]
theorem moves_T {p : Int} {sz : Nat} {ms : List IV} (h : ∀ m ∈ ms, Mv p sz m) (hp : p ≤ 6) (z0 : 1 ≤ sz) (z1 : sz ≤ 5) (ml : ms.length ≤ 12) (st : Hs) : runC f_are_moves [.tup ms, .int p] st = .ok (.bl true) st := clT (by simp [clIs, clI, cls_all fun m hm => (h m hm).cl]) (by
  have c : clIs ms = true := cls_all fun m hm => (h m hm).cl
  obtain ⟨st1, e1⟩ := all_T (i := 0) (j := 2) (m := mCall f_is_move (maC (mVar 2) (maC (mVar 1) maN))) (env := [some (.tup ms), some (.int p), none]) (ys := ms) (st := []) rfl (fun y hy st => by
    have := move_T (h y hy) hp z0 z1 st
    simp [mDef, endR, sRet, sRetN, sE, sSeq, sNx, sIf, sAsg, sExp, asNx, sPar2, sPar3, mVar, mC, mBin, bnd, lf, mB, maC, maN, Sm.ret, Sm.stuck, gNm, gTp, gsC, gsN, gSb, mtB, asB, mtAnd, mtOr, mtNot, mAnd, mOr, mNot, mIf, mCall, mTup, mLst, mDct, mNeg, mIsi, mChain, mSl, mNo, mPt, newL, bg1, bg2, bg3, bg4, bg5, bg6, bg7, bg8, bg9, bg10, bg11, bg12, bg13, bg14, bg15, bg16, bg17, bg18, bg19, bg20, this]) (Nat.le_trans ml (by decide))
  obtain ⟨k, l, st2, e2, b2, l2⟩ := lengths_ok h st1
  have e2' : runC f_lengths_of [.tup ms] st1 = .ok (.ref k) st2 := by
    unfold runC
    obtain ⟨k', l', st', e', b', _⟩ := lengths_ok h []
    rw [if_pos (by simp [clIs, clI, c]), e']
    simpa [clI] using e2
  refine ⟨st2, ?_⟩
  unfold f_are_moves b_are_moves
  generalize mB bAll (maC (mLc (iTp (mVar 0)) (gNm 2) mtYes (mCall f_is_move (maC (mVar 2) (maC (mVar 1) maN))) [2]) maN) = mm at e1 ⊢
  have l3 : ¬ (12 < (ms.length : Int)) := by omega
  have l4 : (l.length : Int) ≤ 1 := by omega
  simp [mDef, endR, sRet, sRetN, sE, sSeq, sNx, sIf, sAsg, sExp, asNx, sPar2, sPar3, mVar, mC, mBin, bnd, lf, mB, maC, maN, Sm.ret, Sm.stuck, gNm, gTp, gsC, gsN, gSb, mtB, asB, mtAnd, mtOr, mtNot, mAnd, mOr, mNot, mIf, mCall, mTup, mLst, mDct, mNeg, mIsi, mChain, mSl, mNo, mPt, newL, bg1, bg2, bg3, bg4, bg5, bg6, bg7, bg8, bg9, bg10, bg11, bg12, bg13, bg14, bg15, bg16, bg17, bg18, bg19, bg20, tyName, subTy, bLen, seqOf, lstOf, ioL, oGt, l3, e1, e2', b2, oLe, l4]) st
theorem asc_T {os : List Int} (h : os.Pairwise (· < ·)) (hl : os.length ≤ 6) (st : Hs) : runC f_is_ascending [.tup (os.map .int)] st = .ok (.bl true) st := clT (by simp [clIs, clI, cls_ints]) (by
  have c := cut_from (os.map IV.int) 1
  obtain ⟨l, e⟩ := goLc_map (s := .zip (.tup (os.map .int)) (.tup ((os.map .int).drop 1)) (min (os.map IV.int).length ((os.map IV.int).drop 1).length)) (g := gTp 2 (gsC (gNm 1) (gsC (gNm 2) gsN))) (m := mBin oLt (mVar 1) (mVar 2)) (env := [some (.tup (os.map .int)), none, none]) (F := fun _ => .bl true) (fun _ => True) (fun _ _ _ => trivial) (fun st _ => by simp [Src.fin, seqOf]) (fun i st hi _ => by
    have hi : i < min (os.map IV.int).length ((os.map IV.int).drop 1).length := hi
    have hi : i + 1 < os.length := by simp at hi; omega
    refine ⟨.tup [.int os[i], .int os[i + 1]], [some (.tup (os.map .int)), some (.int os[i]), some (.int os[i + 1])], [], ?_, rfl, ?_⟩
    · have h1 : (os.map IV.int)[i]? = some (.int os[i]) := by simp [show i < os.length by omega]
      have h2 : ((os.map IV.int).drop 1)[i]? = some (.int os[i + 1]) := by simp [Nat.add_comm 1 i, hi]
      simp only [Src.item, seqOf, Option.bind_some, if_true, pairAt, h1, h2]
    · have : os[i] < os[i + 1] := List.pairwise_iff_getElem.mp h i (i + 1) (by omega) hi (by omega)
      simp [mDef, endR, sRet, sRetN, sE, sSeq, sNx, sIf, sAsg, sExp, asNx, sPar2, sPar3, mVar, mC, mBin, bnd, lf, mB, maC, maN, Sm.ret, Sm.stuck, gNm, gTp, gsC, gsN, gSb, mtB, asB, mtAnd, mtOr, mtNot, mAnd, mOr, mNot, mIf, mCall, mTup, mLst, mDct, mNeg, mIsi, mChain, mSl, mNo, mPt, newL, bg1, bg2, bg3, bg4, bg5, bg6, bg7, bg8, bg9, bg10, bg11, bg12, bg13, bg14, bg15, bg16, bg17, bg18, bg19, bg20, oLt, this]) _ 0 [] [] (Nat.zero_add _) (Nat.le_trans (Nat.min_le_left _ _) (by simp; exact Nat.le_trans hl (by decide))) rfl trivial
  obtain ⟨n, hn⟩ : ∃ n, n = min (os.map IV.int).length ((os.map IV.int).drop 1).length := ⟨_, rfl⟩
  have ea : ((List.range' 0 n).map fun _ => IV.bl true) = ((List.range' 0 n).map fun _ => true).map IV.bl := by rw [List.map_map]; rfl
  rw [List.nil_append, ← hn] at e
  have e : goLc (.zip (.tup (os.map .int)) (.tup ((os.map .int).drop 1)) n) (gTp 2 (gsC (gNm 1) (gsC (gNm 2) gsN))) mtYes (mBin oLt (mVar 1) (mVar 2)) [some (.tup (os.map .int)), none, none] n 0 [] [] = .ok ((List.range' 0 n).map fun _ => IV.bl true) ([] ++ l) := e
  rw [ea] at e
  have et : ((List.range' 0 n).map fun _ => true).all id = true := by simp
  generalize ((List.range' 0 n).map fun _ => true) = bs at e et
  have c2 : cutI (os.map IV.int) (some 1) none = (os.map IV.int).drop 1 := c
  refine ⟨([] ++ l) ++ [.lst (bs.map .bl)], ?_⟩
  have e3 : mLc (iZp (maC (mVar 0) (maC (mSl (mVar 0) (mPt (mC (.int 1))) mNo) maN))) (gTp 2 (gsC (gNm 1) (gsC (gNm 2) gsN))) mtYes (mBin oLt (mVar 1) (mVar 2)) [1, 2] [some (.tup (os.map .int)), none, none] [] = .ok (.ref ([] ++ l).length) (([] ++ l) ++ [.lst (bs.map .bl)]) := by
    simp only [mLc, iZp, maC, maN, mVar, mSl, mPt, mNo, mC, bnd, Sm.ret, lf, oSl, wipeI, List.getElem?_cons_zero, List.getElem?_cons_succ, c2, Src.n, List.set_cons_succ, List.set_cons_zero, ← hn, e]
  unfold f_is_ascending b_is_ascending
  generalize mLc (iZp (maC (mVar 0) (maC (mSl (mVar 0) (mPt (mC (.int 1))) mNo) maN))) (gTp 2 (gsC (gNm 1) (gsC (gNm 2) gsN))) mtYes (mBin oLt (mVar 1) (mVar 2)) [1, 2] = mm at e3 ⊢
  have e4 : (([] ++ l) ++ [IO.lst (bs.map .bl)])[([] ++ l).length]? = some (.lst (bs.map .bl)) := by simp
  simp only [mDef, endR, sRet, sRetN, sE, sSeq, sNx, sIf, sAsg, sExp, asNx, sPar2, sPar3, mVar, mC, mBin, bnd, lf, mB, maC, maN, Sm.ret, Sm.stuck, gNm, gTp, gsC, gsN, gSb, mtB, asB, mtAnd, mtOr, mtNot, mAnd, mOr, mNot, mIf, mCall, mTup, mLst, mDct, mNeg, mIsi, mChain, mSl, mNo, mPt, newL, bg1, bg2, bg3, bg4, bg5, bg6, bg7, bg8, bg9, bg10, bg11, bg12, bg13, bg14, bg15, bg16, bg17, bg18, bg19, bg20, List.map_cons, List.map_nil, List.length_cons, List.length_nil, List.replicate, List.cons_append, List.nil_append, e3, bAll, seqOf, lstOf, ioL, e4, Option.bind_some, bls_map, et, Option.map_some] at e3 e4 ⊢) st

theorem numbers_T {p : Int} {os : List Int} (hp : p ≤ 6) (ol : os.length ≤ 6) (oa : os.Pairwise (· < ·)) (ob : ∀ o ∈ os, 0 ≤ o ∧ o < p) (st : Hs) : runC f_are_numbers [.tup (os.map .int), .int p] st = .ok (.bl true) st := clT (by simp [clIs, clI, cls_ints]) (by
  obtain ⟨st1, e1⟩ := all_T (i := 0) (j := 2) (m := mCall f_is_below (maC (mVar 2) (maC (mVar 1) maN))) (env := [some (.tup (os.map .int)), some (.int p), none]) (ys := os.map .int) (st := []) rfl (fun y hy st => by
    obtain ⟨o, ho, rfl⟩ := List.mem_map.mp hy
    have hb := ob o ho
    exact call_ok (c_ok (v_ok rfl) (c_ok (v_ok rfl) n_ok)) (below_T ⟨o, rfl, hb.1, hb.2⟩ (by omega) st)) (by rw [List.length_map]; exact Nat.le_trans ol (by decide))
  have e2 := asc_T oa ol st1
  refine ⟨st1, ?_⟩
  show endR (b_are_numbers [some (.tup (os.map .int)), some (.int p), none] []) = _
  unfold b_are_numbers
  rw [rt_ok ((and_t (isi_tup (v_ok rfl))).trans ((and_t e1).trans (call_ok (c_ok (v_ok rfl) n_ok) e2)))]
  rfl) st
theorem ends_T {p : Int} {os : List Int} (hp : p ≤ 6) (ol : os.length ≤ 3) (oa : os.Pairwise (· < ·)) (ob : ∀ o ∈ os, 0 ≤ o ∧ o < p) (st : Hs) : runC f_are_ends [.tup (os.map .int), .int p] st = .ok (.bl true) st := clT (by simp [clIs, clI, cls_ints]) (by
  have e := numbers_T hp (Nat.le_trans ol (by decide)) oa ob []
  refine ⟨[], ?_⟩
  have l3 : (os.length : Int) ≤ 3 := by omega
  simp [f_are_ends, b_are_ends, mDef, endR, sRet, sRetN, sE, sSeq, sNx, sIf, sAsg, sExp, asNx, sPar2, sPar3, mVar, mC, mBin, bnd, lf, mB, maC, maN, Sm.ret, Sm.stuck, gNm, gTp, gsC, gsN, gSb, mtB, asB, mtAnd, mtOr, mtNot, mAnd, mOr, mNot, mIf, mCall, mTup, mLst, mDct, mNeg, mIsi, mChain, mSl, mNo, mPt, newL, bg1, bg2, bg3, bg4, bg5, bg6, bg7, bg8, bg9, bg10, bg11, bg12, bg13, bg14, bg15, bg16, bg17, bg18, bg19, bg20, e, bLen, seqOf, oLe, l3, ol]) st
theorem indices_ok {p : Int} {sz : Nat} {ms : List IV} (h : ∀ m ∈ ms, Mv p sz m) (ml : ms.length ≤ 12) (q : Int) (st : Hs) : f_indices_at [.tup ms, .int q] st = .ok (.ref st.length) (st ++ [.lst (ixs ms q)]) := by
  have e := goLc_filt (s := .enu (.tup ms) ms.length) (g := gTp 2 (gsC (gNm 2) (gsC (gNm 3) gsN))) (c := mtB (mBin oEq (mBin oIx (mVar 3) (mC (.int 1))) (mVar 1))) (m := mVar 2) (env := [some (.tup ms), some (.int q), none, none]) (B := fun i => (match ms[i]? with | some m => hereI m | none => -1) == q) (F := fun (i : Nat) => .int i) (st := st) (by simp [Src.fin, seqOf]) (fun i hi => by
    have hi : i < ms.length := hi
    obtain ⟨w, r, e⟩ := (h ms[i] (List.getElem_mem hi)).here
    refine ⟨.tup [.int i, ms[i]], [some (.tup ms), some (.int q), some (.int i), some ms[i]], by simp [Src.item, seqOf, hi], rfl, ?_, fun _ => rfl⟩
    rw [List.getElem?_eq_getElem hi]
    generalize hg : hereI ms[i] = j at e ⊢
    rw [e]
    simp [mDef, endR, sRet, sRetN, sE, sSeq, sNx, sIf, sAsg, sExp, asNx, sPar2, sPar3, mVar, mC, mBin, bnd, lf, mB, maC, maN, Sm.ret, Sm.stuck, gNm, gTp, gsC, gsN, gSb, mtB, asB, mtAnd, mtOr, mtNot, mAnd, mOr, mNot, mIf, mCall, mTup, mLst, mDct, mNeg, mIsi, mChain, mSl, mNo, mPt, newL, bg1, bg2, bg3, bg4, bg5, bg6, bg7, bg8, bg9, bg10, bg11, bg12, bg13, bg14, bg15, bg16, bg17, bg18, bg19, bg20, oIx, seqOf, at1, oEq, eqI_int, hereI]) ms.length 0 [] (Nat.zero_add _) (Nat.le_trans ml (by decide)) (Nat.le_refl _)
  show endR (sRet _ [some (.tup ms), some (.int q), none, none] st) = _
  rw [rt_ok (lc_ok (s := .enu (.tup ms) ms.length) (st1 := st) rfl e)]
  rfl
theorem indices_run {p : Int} {sz : Nat} {ms : List IV} (h : ∀ m ∈ ms, Mv p sz m) (ml : ms.length ≤ 12) (q : Int) (st : Hs) : runC f_indices_at [.tup ms, .int q] st = .ok (.ref st.length) (st ++ [.lst (ixs ms q)]) := by
  unfold runC
  have c : clIs ms = true := cls_all fun m hm => (h m hm).cl
  rw [if_pos (by simp [clIs, clI, c]), indices_ok h ml q []]
  simp only [clI, Bool.false_and, Bool.false_eq_true, if_false]
  exact indices_ok h ml q st
theorem ats_ok {nm : IV} {p : Int} {sz : Nat} {ms : List IV} {os : List Int} {e0 : Option IV} (hp : 1 ≤ p ∧ p ≤ 6) (h : ∀ m ∈ ms, Mv p sz m) (ml : ms.length ≤ 12) (st : Hs) :
    ∃ l, mB bTuple (maC (mLc (iRg1 (maC (mVar 2) maN)) (gNm 5) mtYes (mB bTuple (maC (mCall f_indices_at (maC (mVar 3) (maC (mVar 5) maN))) maN)) [5]) maN) [e0, some nm, some (.int p), some (.tup ms), some (.tup (os.map .int)), none] st = .ok (.tup (ats p ms)) (st ++ l) := by
  obtain ⟨n, rfl⟩ := Int.eq_ofNat_of_zero_le (show 0 ≤ p by omega)
  obtain ⟨l, e⟩ := goLc_map (s := .rng 0 n) (g := gNm 5) (m := mB bTuple (maC (mCall f_indices_at (maC (mVar 3) (maC (mVar 5) maN))) maN)) (env := [e0, some nm, some (.int n), some (.tup ms), some (.tup (os.map .int)), none]) (F := fun (i : Nat) => .tup (ixs ms i)) (fun _ => True) (fun _ _ _ => trivial) (fun _ _ => rfl) (fun i st hi _ => by
    have hi : i < n := hi
    refine ⟨.int (0 + i), [e0, some nm, some (.int n), some (.tup ms), some (.tup (os.map .int)), some (.int i)], [.lst (ixs ms i)], by simp [Src.item, hi], by simp [gNm], ?_⟩
    exact tup_ok (call_ok (c_ok (v_ok rfl) (c_ok (v_ok rfl) n_ok)) (indices_run h ml i st)) (by simp)) n 0 [] st (Nat.zero_add _) (Nat.le_trans (show n ≤ 6 by omega) (by decide)) rfl trivial
  refine ⟨l ++ [.lst (ats n ms)], ?_⟩
  rw [← List.append_assoc]
  exact tup_ok (lc_ok (rg1_nat (c_ok (v_ok rfl) n_ok) (by omega)) e) (by rw [List.getElem?_append_right (Nat.le_refl _), Nat.sub_self]; rfl)
def mkA : MS := sSeq (sFldI okf "own_name" (mVar 0) (mVar 1)) (sSeq (sFldI okf "own_points" (mVar 0) (mVar 2)) (sSeq (sFldI okf "own_moves" (mVar 0) (mVar 3)) (sFldI okf "own_ends" (mVar 0) (mVar 4))))
theorem fld4 (a b c d : IV) : mkA [some (.ref 0), some a, some b, some c, some d, none] [.ins "Procedure" [] []] = .nx [some (.ref 0), some a, some b, some c, some d, none] [.ins "Procedure" ["own_name", "own_points", "own_moves", "own_ends"] [a, b, c, d]] := by kernel_rfl
theorem fld5 (a b c d e : IV) (l : Hs) : sFldI okf "own_at" (mVar 0) (mC e) [some (.ref 0), some a, some b, some c, some d, none] (.ins "Procedure" ["own_name", "own_points", "own_moves", "own_ends"] [a, b, c, d] :: l) = .nx [some (.ref 0), some a, some b, some c, some d, none] (.ins "Procedure" ["own_name", "own_points", "own_moves", "own_ends", "own_at"] [a, b, c, d, e] :: l) := by kernel_rfl
theorem fld6 (a b c d e f : IV) (l : Hs) : sFldI okf "own_shape" (mVar 0) (mC f) [some (.ref 0), some a, some b, some c, some d, none] (.ins "Procedure" ["own_name", "own_points", "own_moves", "own_ends", "own_at"] [a, b, c, d, e] :: l) = .nx [some (.ref 0), some a, some b, some c, some d, none] (.ins "Procedure" NS [a, b, c, d, e, f] :: l) := by kernel_rfl
theorem fld_of {f : Str} {o m : ME} {env : Sm.Env} {st st1 : Hs} {v : IV} (h : m env st = .ok v st1) : sFldI okf f o m env st = sFldI okf f o (mC v) env st1 := by
  unfold sFldI sE
  rw [h]
  rfl
theorem init_ok {sz : Nat} {nm : IV} {p : Int} {ms : List IV} {os : List Int} (h : Form sz nm p ms os) : ∃ l, f_Procedure_U_initU_ [.ref 0, nm, .int p, .tup ms, .tup (os.map .int)] [.ins "Procedure" [] []] = .ok .non (.ins "Procedure" NS [nm, .int p, .tup ms, .tup (os.map .int), .tup (ats p ms), .tup (fl nm p ms os)] :: l) := by
  have p0 := h.p0
  have p1 := h.p1
  obtain ⟨S0, hS0⟩ : ∃ S0 : Hs, S0 = [.ins "Procedure" [] []] := ⟨_, rfl⟩
  obtain ⟨E, hE⟩ : ∃ E : Sm.Env, E = [some (.ref 0), some nm, some (.int p), some (.tup ms), some (.tup (os.map .int)), none] := ⟨_, rfl⟩
  have e1 : mtB (mCall f_is_name (maC (mVar 1) maN)) E S0 = .ok true S0 := mtB_ok (call_ok (c_ok (v_ok (by rw [hE]; rfl)) n_ok) (name_T h.nm S0))
  have e2 : mtB (mCall f_is_below (maC (mVar 2) (maC (mBin oAdd (mC (.int 6)) (mC (.int 1))) maN))) E S0 = .ok true S0 := mtB_ok (call_ok (c_ok (v_ok (by rw [hE]; rfl)) (c_ok rfl n_ok)) (below_T (l := 7) ⟨p, rfl, by omega, by omega⟩ (by decide) S0))
  have e3 : mtB (mBin oEq (mVar 2) (mC (.int 0))) E S0 = .ok false S0 := by
    have : (p == 0) = false := by simp; omega
    rw [hE]
    simp only [mtB, mBin, mC, bnd, mVar, List.getElem?_cons_succ, List.getElem?_cons_zero, oEq, eqI_int, this, Option.map_some, lf, asB, Sm.ret]
  have e4 : mtB (mCall f_are_moves (maC (mVar 3) (maC (mVar 2) maN))) E S0 = .ok true S0 := mtB_ok (call_ok (c_ok (v_ok (by rw [hE]; rfl)) (c_ok (v_ok (by rw [hE]; rfl)) n_ok)) (moves_T h.mv p1 h.z0 h.z1 h.ml S0))
  have e5 : mtB (mCall f_are_ends (maC (mVar 4) (maC (mVar 2) maN))) E S0 = .ok true S0 := mtB_ok (call_ok (c_ok (v_ok (by rw [hE]; rfl)) (c_ok (v_ok (by rw [hE]; rfl)) n_ok)) (ends_T p1 h.ol h.oa h.ob S0))
  obtain ⟨l, e6⟩ := ats_ok (nm := nm) (os := os) (e0 := some (.ref 0)) ⟨p0, p1⟩ h.mv h.ml [.ins "Procedure" ["own_name", "own_points", "own_moves", "own_ends"] [nm, .int p, .tup ms, .tup (os.map .int)]]
  refine ⟨l, ?_⟩
  rw [← hS0]
  show endR (b_Procedure_U_initU_ [some (.ref 0), some nm, some (.int p), some (.tup ms), some (.tup (os.map .int)), none] S0) = _
  rw [← hE]
  unfold b_Procedure_U_initU_
  rw [seq_nx (if_no (by rw [mtOr_f (mtNot_ok e1), mtOr_f (mtNot_ok e2)]; exact e3)), seq_nx (if_no (mtNot_ok e4)), seq_nx (if_no (mtNot_ok e5))]
  have f4 := fld4 nm (.int p) (.tup ms) (.tup (os.map .int))
  rw [← hE, ← hS0] at f4
  rw [← hE] at e6
  have sq : ∀ A B C D R : MS, ∀ env st env' st', sSeq A (sSeq B (sSeq C D)) env st = .nx env' st' → sSeq A (sSeq B (sSeq C (sSeq D R))) env st = R env' st' := by
    intro A B C D R env st env' st' hh
    unfold sSeq at hh ⊢
    cases qa : A env st with
    | nx e1 s1 =>
      rw [qa] at hh
      dsimp only at hh ⊢
      cases qb : B e1 s1 with
      | nx e2 s2 =>
        rw [qb] at hh
        dsimp only at hh ⊢
        cases qc : C e2 s2 with
        | nx e3 s3 =>
          rw [qc] at hh
          dsimp only at hh ⊢
          rw [hh]
        | _ => rw [qc] at hh; cases hh
      | _ => rw [qb] at hh; cases hh
    | _ => rw [qa] at hh; cases hh
  rw [sq _ _ _ _ _ _ _ _ _ f4]
  have f5 := fld5 nm (.int p) (.tup ms) (.tup (os.map .int)) (.tup (ats p ms)) l
  have f6 := fld6 nm (.int p) (.tup ms) (.tup (os.map .int)) (.tup (ats p ms)) (.tup (fl nm p ms os)) l
  rw [← hE] at f5 f6
  rw [seq_nx ((fld_of e6).trans f5), (fld_of (tp_ok (c_ok (v_ok (by rw [hE]; rfl)) (c_ok (v_ok (by rw [hE]; rfl)) (c_ok (v_ok (by rw [hE]; rfl)) (c_ok (v_ok (by rw [hE]; rfl)) n_ok)))) bg4)).trans f6]
  rfl
theorem mk_ok {sz : Nat} {nm : IV} {p : Int} {ms : List IV} {os : List Int} (h : Form sz nm p ms os) (st : Hs) : runMk "Procedure" f_Procedure_U_initU_ (fl nm p ms os) st = .ok (PO nm p ms os) st := by
  obtain ⟨l, e⟩ := init_ok h
  unfold runMk
  rw [if_pos h.cl]
  have e' : f_Procedure_U_initU_ (.ref 0 :: fl nm p ms os) [.ins "Procedure" [] []] = .ok .non (.ins "Procedure" NS [nm, .int p, .tup ms, .tup (os.map .int), .tup (ats p ms), .tup (fl nm p ms os)] :: l) := e
  rw [e']
  dsimp only [List.getElem?_cons_zero]
  have c1 : clIs [nm, .int p, .tup ms, .tup (os.map .int), .tup (ats p ms), .tup (fl nm p ms os)] = true := by
    simp [clIs, clI, h.nm.cl, h.cms, cls_ints, ats_cl, h.cl]
  have c2 : plIs [nm, .int p, .tup ms, .tup (os.map .int), .tup (ats p ms), .tup (fl nm p ms os)] = true := by
    simp [plIs, plI, h.nm.pl, h.pms, pls_ints, ats_pl, h.pl]
  rw [c1, c2]
  simp only [decide_true, Bool.or_true, Bool.and_true, if_true]
  rfl
section
variable {sz : Nat} {nm : IV} {p : Int} {ms : List IV} {os : List Int}
end
section
variable {sz L k : Nat} {st0 st : Hs} {E : Sm.Env} {es : MA} {nm : IV} {p : Int} {ms : List IV} {os : List Int}
end
theorem fld_get {f : Str} {i : Nat} {env : Sm.Env} {st : Hs} {xs : List IV} {v : IV} (h : env[i]? = some (some (.obj "Procedure" NS xs))) (h2 : okf "Procedure" f = true) (h3 : fldOf f NS xs = some v) : mFld okf f (mVar i) env st = .ok v st := by
  unfold mFld bnd
  rw [v_ok h]
  simp only [insOf, h2, h3, if_true]
section
variable {sz : Nat} {nm : IV} {p : Int} {ms : List IV} {os : List Int}
theorem fN {i : Nat} {env : Sm.Env} {st : Hs} (h : env[i]? = some (some (PO nm p ms os))) : mFld okf "own_name" (mVar i) env st = .ok nm st := fld_get h (by decide +kernel) (by kernel_rfl)
theorem fP {i : Nat} {env : Sm.Env} {st : Hs} (h : env[i]? = some (some (PO nm p ms os))) : mFld okf "own_points" (mVar i) env st = .ok (.int p) st := fld_get h (by decide +kernel) (by kernel_rfl)
theorem fM {i : Nat} {env : Sm.Env} {st : Hs} (h : env[i]? = some (some (PO nm p ms os))) : mFld okf "own_moves" (mVar i) env st = .ok (.tup ms) st := fld_get h (by decide +kernel) (by kernel_rfl)
theorem fE {i : Nat} {env : Sm.Env} {st : Hs} (h : env[i]? = some (some (PO nm p ms os))) : mFld okf "own_ends" (mVar i) env st = .ok (.tup (os.map .int)) st := fld_get h (by decide +kernel) (by kernel_rfl)
theorem fA {i : Nat} {env : Sm.Env} {st : Hs} (h : env[i]? = some (some (PO nm p ms os))) : mFld okf "own_at" (mVar i) env st = .ok (.tup (ats p ms)) st := fld_get h (by decide +kernel) (by kernel_rfl)
theorem fS {i : Nat} {env : Sm.Env} {st : Hs} (h : env[i]? = some (some (PO nm p ms os))) : mFld okf "own_shape" (mVar i) env st = .ok (.tup (fl nm p ms os)) st := fld_get h (by decide +kernel) (by kernel_rfl)
end
section
variable {sz : Nat} {nm : IV} {p : Int} {ms : List IV} {os : List Int}
theorem endsP_T (h : Form sz nm p ms os) (st : Hs) : runC f_Procedure_ends [PO nm p ms os] st = .ok (.tup (os.map .int)) st := runC_cl (by simp [clIs, h.pocl]) (by simp [clI, cls_ints]) ⟨[], def_rt (fE rfl)⟩ (by simp [plI, pls_ints])
theorem len_T (h : Form sz nm p ms os) (st : Hs) : runC f_Procedure_U_lenU_ [PO nm p ms os] st = .ok (.int ms.length) st := runC_cl (by simp [clIs, h.pocl]) rfl ⟨[], def_rt (b_ok (c_ok (fM rfl) n_ok) rfl)⟩
theorem lenO_T (h : Form sz nm p ms os) (st : Hs) : bLenO a_U_lenU_ [PO nm p ms os] st = some (.int ms.length, st) := by
  have h1 := h.ml
  have h2 : (ms.length : Int) < 2 ^ 63 := Int.lt_of_le_of_lt (show (ms.length : Int) ≤ 12 by omega) (by decide)
  simp only [bLenO, tyPO, own_ok a_U_lenU_ (show List.lookup ("Procedure" : Str) a_U_lenU_ = some f_Procedure_U_lenU_ by kernel_rfl) (len_T h st)]
  rw [if_pos ⟨by omega, h2⟩]
end
section
variable {sz sz' : Nat} {nm nm' : IV} {p p' : Int} {ms ms' : List IV} {os os' : List Int}
theorem isC_own {i : Nat} {env : Sm.Env} {st : Hs} (h : env[i]? = some (some (PO nm p ms os))) : mIsC own_cs "Procedure" (mVar i) env st = .ok (.bl true) st := by
  unfold mIsC bnd
  rw [v_ok h]
  dsimp only
  rw [tyPO]
  dsimp only
  rw [if_pos (by decide +kernel)]
  simp
theorem isC_bi {i : Nat} {env : Sm.Env} {st : Hs} {y : IV} {t : String} (h : env[i]? = some (some y)) (ht : tyOf st y = some (.bi t)) : mIsC own_cs "Procedure" (mVar i) env st = .ok (.bl false) st := by
  unfold mIsC bnd
  rw [v_ok h]
  dsimp only
  rw [ht]
theorem eq_obj (h : Form sz nm p ms os) (h' : Form sz' nm' p' ms' os') {b : Bool} (e : eqAll (eqI [] 39) (fl nm p ms os) (fl nm' p' ms' os') = some b) (st : Hs) : runC f_Procedure_U_eqU_ [PO nm p ms os, PO nm' p' ms' os'] st = .ok (.bl b) st :=
  runC_cl (by simp [clIs, h.pocl, h'.pocl]) rfl ⟨[], def_rt ((and_t (isC_own rfl)).trans (bin_ok (fS rfl) (fS rfl) (by simp only [oEq, eqI_tups (show (fl nm p ms os).length = (fl nm' p' ms' os').length from rfl), e, Option.map_some])))⟩
theorem eq_pl (h : Form sz nm p ms os) {y : IV} {t : String} {st : Hs} (ht : tyOf st y = some (.bi t)) (h0 : clI y = true → tyOf [] y = some (.bi t)) : runC f_Procedure_U_eqU_ [PO nm p ms os, y] st = .ok (.bl false) st := by
  by_cases c : clIs [PO nm p ms os, y] = true
  · have c' : clI y = true := by simp [clIs] at c; exact c.2
    exact runC_cl c rfl ⟨[], def_rt (and_f (isC_bi rfl (h0 c')))⟩
  · unfold runC
    rw [if_neg c]
    exact def_rt (and_f (isC_bi rfl ht))
theorem own_eq {plain : O2} {neg : Bool} {y : IV} {st : Hs} {b : Bool} (hy : tyOf st y = some (.own "Procedure") ∨ ∃ t, tyOf st y = some (.bi t)) (e : runC f_Procedure_U_eqU_ [PO nm p ms os, y] st = .ok (.bl b) st) : oOwn plain neg a_U_eqU_ (PO nm p ms os) y st = some (.bl (b != neg), st) := by
  have la : List.lookup ("Procedure" : Str) a_U_eqU_ = some f_Procedure_U_eqU_ := by kernel_rfl
  rcases hy with hy | ⟨t, hy⟩
  · simp only [oOwn, tyPO, hy, if_true, la, goOwn, e]
  · simp only [oOwn, tyPO, hy, la, goOwn, e]
end

section
variable {sz : Nat} {nm : IV} {p : Int} {ms : List IV} {os : List Int} {a b : Nat} {st : Hs}
theorem strI {i : Int} (h0 : 0 ≤ i) (h1 : i < 13) : bStrO a_U_strU_ [.int i] st = some (.str (Str.ofString (toString i)), st) := by
  unfold bStrO
  dsimp only
  rw [if_pos (int_str h0 h1).2]
end

section
variable {sz : Nat} {nm : IV} {p : Int} {ms : List IV} {os : List Int} {a b : Nat} {T X : Option IV}
end
section
variable {sz : Nat} {nm : IV} {p : Int} {ms : List IV} {os : List Int} {a b : Nat} {T X x10 x11 : Option IV}
end
theorem urn_ok {ns : List Int} {i : Int} (h0 : 0 ≤ i) (st : Hs) : ∃ o, f__law_urn [.rl (ns.map .int), .int i] st = .ok (.ref st.length) (st ++ [o]) ∧ UrnO o := by
  obtain ⟨A, hA⟩ : ∃ A : Int, A = 10 ^ 60 := ⟨_, rfl⟩
  obtain ⟨B, hB⟩ : ∃ B : Int, B = 10 ^ 540 := ⟨_, rfl⟩
  have p1 : ∀ st, oPow (.int 10) (.int 60) st = some (.int A, st) := fun st => by rw [hA]; exact pow60 st
  have p2 : ∀ st, oPow (.int A) (.int 9) st = some (.int B, st) := fun st => by rw [hA, hB]; exact pow540 st
  have hB0 : 0 < B := by rw [hB]; decide +kernel
  have cell : ∃ c : Int, mIf (mtB (mBin oLt (mVar 1) (mB bLen (maC (mVar 0) maN)))) (mBin oIx (mVar 0) (mVar 1)) (mBin oAdd (mBin oMul (mC (.int 83)) (mVar 1)) (mC (.int 37))) [some (.rl (ns.map .int)), some (.int i), none, none, none] st = .ok (.int c) st := by
    by_cases q : i < (ns.length : Int)
    · have hi : i.toNat < ns.length := by omega
      refine ⟨ns[i.toNat], ?_⟩
      simp [mDef, endR, sRet, sRetN, sE, sSeq, sNx, sIf, sAsg, sExp, asNx, sPar2, sPar3, mVar, mC, mBin, bnd, lf, mB, maC, maN, Sm.ret, Sm.stuck, gNm, gTp, gsC, gsN, gSb, mtB, asB, mtAnd, mtOr, mtNot, mAnd, mOr, mNot, mIf, mCall, mTup, mLst, mDct, mNeg, mIsi, mChain, mSl, mNo, mPt, newL, bg1, bg2, bg3, bg4, bg5, bg6, bg7, bg8, bg9, bg10, bg11, bg12, bg13, bg14, bg15, bg16, bg17, bg18, bg19, bg20, bLen, seqOf, lstOf, oLt, q, oIx, at_int _ h0, hi]
    · refine ⟨83 * i + 37, ?_⟩
      simp [mDef, endR, sRet, sRetN, sE, sSeq, sNx, sIf, sAsg, sExp, asNx, sPar2, sPar3, mVar, mC, mBin, bnd, lf, mB, maC, maN, Sm.ret, Sm.stuck, gNm, gTp, gsC, gsN, gSb, mtB, asB, mtAnd, mtOr, mtNot, mAnd, mOr, mNot, mIf, mCall, mTup, mLst, mDct, mNeg, mIsi, mChain, mSl, mNo, mPt, newL, bg1, bg2, bg3, bg4, bg5, bg6, bg7, bg8, bg9, bg10, bg11, bg12, bg13, bg14, bg15, bg16, bg17, bg18, bg19, bg20, bLen, seqOf, lstOf, oLt, q, oMul, oAdd]
  obtain ⟨c, ec⟩ := cell
  obtain ⟨G, hG⟩ : ∃ G : Int, G = (if c < 0 then -c else c) % B := ⟨_, rfl⟩
  refine ⟨.lst [.int (if G - 100000000000000000 > 0 then G - 100000000000000000 else 0), .int ((G * 104651 + 15331 * i + 43 * (if decide (c < 0) = true then 1 else 0) + 19) % 2305843009213693921), .int 0], ?_, ⟨_, _, 0, rfl⟩⟩
  unfold f__law_urn b__law_urn
  generalize mIf (mtB (mBin oLt (mVar 1) (mB bLen (maC (mVar 0) maN)))) (mBin oIx (mVar 0) (mVar 1)) (mBin oAdd (mBin oMul (mC (.int 83)) (mVar 1)) (mC (.int 37))) = mm at ec ⊢
  simp [mDef, endR, sRet, sRetN, sE, sSeq, sNx, sIf, sAsg, sExp, asNx, sPar2, sPar3, mVar, mC, mBin, bnd, lf, mB, maC, maN, Sm.ret, Sm.stuck, gNm, gTp, gsC, gsN, gSb, mtB, asB, mtAnd, mtOr, mtNot, mAnd, mOr, mNot, mIf, mCall, mTup, mLst, mDct, mNeg, mIsi, mChain, mSl, mNo, mPt, newL, bg1, bg2, bg3, bg4, bg5, bg6, bg7, bg8, bg9, bg10, bg11, bg12, bg13, bg14, bg15, bg16, bg17, bg18, bg19, bg20, ec, bAbs, bInt, p1, p2, oMod, hB0, oMul, oAdd, oLt, pow17, oSub, bMax, ← hG]
theorem urn_run {ns : List Int} {i : Int} (h0 : 0 ≤ i) (st : Hs) : ∃ o, runC f__law_urn [.rl (ns.map .int), .int i] st = .ok (.ref st.length) (st ++ [o]) ∧ UrnO o := by
  obtain ⟨o0, e0, _⟩ := urn_ok (ns := ns) h0 []
  obtain ⟨o, e, u⟩ := urn_ok (ns := ns) h0 st
  refine ⟨o, ?_, u⟩
  unfold runC
  rw [if_pos (by simp [clIs, clI, cls_ints]), e0]
  simp only [clI, Bool.false_and, Bool.false_eq_true, if_false]
  exact e
end K04

set_option Elab.async false
set_option linter.all false
set_option maxRecDepth 100000
set_option maxHeartbeats 4000000
namespace K04
open Sm L2 PySem PySem.Spec
/-! ### programs are made -/
theorem lens_ok {p : Int} {sz : Nat} {ms : List IV} (h : ∀ m ∈ ms, Mv p sz m) (st : Hs) : ∃ l, f_lengths_of [.tup ms] st = .ok (.ref st.length) (st ++ [.lst l]) ∧ (l = [] ∨ l = [.int sz]) := by
  obtain ⟨acc, e, ha⟩ := goSc_one (s := .seq (.tup ms) ms.length) (g := gNm 1) (c := mtB (mBin oEq (mBin oIx (mVar 1) (mC (.int 0))) (mC (.str "set")))) (m := mB bLen (maC (mBin oIx (mVar 1) (mC (.int 2))) maN)) (env := [some (.tup ms), none]) (st := st) (y := (sz : Int)) (by simp [Src.fin, seqOf]) (fun i hi => by
    have hi : i < ms.length := hi
    rcases h ms[i] (List.getElem_mem hi) with ⟨h, t, es, em, h1, h2, hl, h3⟩ | ⟨h, n, t, em, h1, h2, h3⟩
    · refine ⟨ms[i], [some (.tup ms), some ms[i]], true, by simp [Src.item, seqOf, hi], rfl, ?_, fun _ => ?_⟩
      · rw [em]; simp [mDef, endR, sRet, sRetN, sE, sSeq, sNx, sIf, sAsg, sExp, asNx, sPar2, sPar3, mVar, mC, mBin, bnd, lf, mB, maC, maN, Sm.ret, Sm.stuck, gNm, gTp, gsC, gsN, gSb, mtB, asB, mtAnd, mtOr, mtNot, mAnd, mOr, mNot, mIf, mCall, mTup, mLst, mDct, mNeg, mIsi, mChain, mSl, mNo, mPt, newL, bg1, bg2, bg3, bg4, bg5, bg6, bg7, bg8, bg9, bg10, bg11, bg12, bg13, bg14, bg15, bg16, bg17, bg18, bg19, bg20, oIx, seqOf, at0, oEq, eqI_str]
      · rw [em]; simp [mDef, endR, sRet, sRetN, sE, sSeq, sNx, sIf, sAsg, sExp, asNx, sPar2, sPar3, mVar, mC, mBin, bnd, lf, mB, maC, maN, Sm.ret, Sm.stuck, gNm, gTp, gsC, gsN, gSb, mtB, asB, mtAnd, mtOr, mtNot, mAnd, mOr, mNot, mIf, mCall, mTup, mLst, mDct, mNeg, mIsi, mChain, mSl, mNo, mPt, newL, bg1, bg2, bg3, bg4, bg5, bg6, bg7, bg8, bg9, bg10, bg11, bg12, bg13, bg14, bg15, bg16, bg17, bg18, bg19, bg20, oIx, seqOf, at2, bLen, hl]
    · refine ⟨ms[i], [some (.tup ms), some ms[i]], false, by simp [Src.item, seqOf, hi], rfl, ?_, fun q => by cases q⟩
      rw [em]; simp [mDef, endR, sRet, sRetN, sE, sSeq, sNx, sIf, sAsg, sExp, asNx, sPar2, sPar3, mVar, mC, mBin, bnd, lf, mB, maC, maN, Sm.ret, Sm.stuck, gNm, gTp, gsC, gsN, gSb, mtB, asB, mtAnd, mtOr, mtNot, mAnd, mOr, mNot, mIf, mCall, mTup, mLst, mDct, mNeg, mIsi, mChain, mSl, mNo, mPt, newL, bg1, bg2, bg3, bg4, bg5, bg6, bg7, bg8, bg9, bg10, bg11, bg12, bg13, bg14, bg15, bg16, bg17, bg18, bg19, bg20, oIx, seqOf, at0, oEq, eqI_str, callset]) ms.length 0 [] (Nat.zero_add _) (.inl rfl)
  have hl2 : acc.length < 64 := by rcases ha with rfl | rfl <;> simp
  refine ⟨acc.map .int, ?_, by rcases ha with rfl | rfl <;> simp⟩
  unfold f_lengths_of b_lengths_of mDef
  generalize mtB (mBin oEq (mBin oIx (mVar 1) (mC (.int 0))) (mC (.str "set"))) = cc at e ⊢
  generalize mB bLen (maC (mBin oIx (mVar 1) (mC (.int 2))) maN) = mm at e ⊢
  simp [mDef, endR, sRet, sRetN, sE, sSeq, sNx, sIf, sAsg, sExp, asNx, sPar2, sPar3, mVar, mC, mBin, bnd, lf, mB, maC, maN, Sm.ret, Sm.stuck, gNm, gTp, gsC, gsN, gSb, mtB, asB, mtAnd, mtOr, mtNot, mAnd, mOr, mNot, mIf, mCall, mTup, mLst, mDct, mNeg, mIsi, mChain, mSl, mNo, mPt, newL, bg1, bg2, bg3, bg4, bg5, bg6, bg7, bg8, bg9, bg10, bg11, bg12, bg13, bg14, bg15, bg16, bg17, bg18, bg19, bg20, mSsc, iTp, wipeI, Src.n, e, hl2]
theorem lens_run {p : Int} {sz : Nat} {ms : List IV} (h : ∀ m ∈ ms, Mv p sz m) (st : Hs) : ∃ l, runC f_lengths_of [.tup ms] st = .ok (.ref st.length) (st ++ [.lst l]) ∧ (l = [] ∨ l = [.int sz]) := by
  obtain ⟨l, e, hl⟩ := lens_ok h st
  obtain ⟨l0, e0, _⟩ := lens_ok h []
  exact ⟨l, run_ref (by simp [clIs, clI, cls_all fun m hm => (h m hm).cl]) e0 e, hl⟩
theorem len_in {st : Hs} {l : List IV} {sz : Nat} (hl : l = [] ∨ l = [.int sz]) : oNotIn (.ref st.length) (.tup [.ref (st ++ [IO.lst l]).length, .ref ((st ++ [IO.lst l]) ++ [IO.lst []]).length]) (((st ++ [IO.lst l]) ++ [IO.lst []]) ++ [IO.lst [.int sz]]) = some (.bl false, ((st ++ [IO.lst l]) ++ [IO.lst []]) ++ [IO.lst [.int sz]]) := by
  obtain ⟨S, hS⟩ : ∃ S, S = (((st ++ [IO.lst l]) ++ [IO.lst []]) ++ [IO.lst [.int sz]]) := ⟨_, rfl⟩
  have a0 : S[st.length]? = some (.lst l) := by rw [hS]; simp
  have a1 : S[(st ++ [IO.lst l]).length]? = some (.lst []) := by rw [hS]; simp
  have a2 : S[((st ++ [IO.lst l]) ++ [IO.lst []]).length]? = some (.lst [.int sz]) := by rw [hS]; simp
  rw [← hS]
  generalize (st ++ [IO.lst l]).length = n1 at a1 ⊢
  generalize ((st ++ [IO.lst l]) ++ [IO.lst []]).length = n2 at a2 ⊢
  have q : ∀ (i : Nat) (xs : List IV), S[i]? = some (.lst xs) → xs.length = l.length → eqI S 40 (.ref i) (.ref st.length) = eqAll (eqI S 39) xs l := fun i xs h1 h2 => eqI_refs h1 a0 h2
  have q' : ∀ (i : Nat) (xs : List IV), S[i]? = some (.lst xs) → xs.length ≠ l.length → eqI S 40 (.ref i) (.ref st.length) = some false := fun i xs h1 h2 => by
    rw [eqI.eq_def]
    simp only [lstOf, h1, a0, ioL, if_neg h2]
  rcases hl with rfl | rfl
  · have b1 := q n1 [] a1 rfl
    have b2 := q' n2 [.int sz] a2 (by simp)
    simp only [oNotIn, inI, seqOf, Option.bind_some, anyI, List.all_cons, List.all_nil, List.any_cons, List.any_nil, b1, b2, eqAll]
    rfl
  · have b1 := q' n1 [] a1 (by simp)
    have b2 := q n2 [.int sz] a2 rfl
    have b3 : eqAll (eqI S 39) [.int sz] [.int sz] = some true := by
      show (match eqI S 39 (.int sz) (.int sz), eqAll (eqI S 39) [] [] with
        | some a, some b => some (a && b)
        | _, _ => none) = _
      rw [show eqI S 39 (.int sz) (.int sz) = some ((sz : Int) == sz) from rfl, beq_self_eq_true]
      rfl
    simp only [oNotIn, inI, seqOf, Option.bind_some, anyI, List.all_cons, List.all_nil, List.any_cons, List.any_nil, b1, b2, b3]
    rfl
def fbody : MS := (sSeq (sIf (mtB (mBin oNotIn (mCall f_lengths_of (maC (mFld okf "own_moves" (mVar 2)) maN)) (mTup (maC (mLst maN) (maC (mLst (maC (mVar 0) maN)) maN))))) (sRet (mC (.bl false))) sNx)
    (sIf (mtNot (mtB (mB bAll (maC (mLc (iTp (mFld okf "own_moves" (mVar 2))) (gNm 3) (mtB (mBin oEq (mBin oIx (mVar 3) (mC (.int 0))) (mC (.str "call")))) (mBin oInD (mBin oIx (mVar 3) (mC (.int 2))) (mVar 1)) [3]) maN)))) (sRet (mC (.bl false))) sNx))
def isCall : IV → Bool
  | .tup (.str w :: _) => w == "call"
  | _ => false
section
variable {g : Pg}
theorem fit_step (h : PgOk g) {q : Pd} (hq : q ∈ g.ps) (e3 : Option IV) (st : Hs) : ∃ st', fbody [some (.int g.sz), some (.fd g.keys g.objs), some q.obj, e3] st = .nx [some (.int g.sz), some (.fd g.keys g.objs), some q.obj, e3] st' := by
  have hf := h.fm q hq
  obtain ⟨l, e1, hl⟩ := lens_run hf.mv st
  obtain ⟨E, hE⟩ : ∃ E : Sm.Env, E = [some (.int g.sz), some (.fd g.keys g.objs), some q.obj, e3] := ⟨_, rfl⟩
  have E2 : E[2]? = some (some (PO (.str q.nm) q.p q.ms q.os)) := by rw [hE]; rfl
  have s1 : mBin oNotIn (mCall f_lengths_of (maC (mFld okf "own_moves" (mVar 2)) maN)) (mTup (maC (mLst maN) (maC (mLst (maC (mVar 0) maN)) maN))) E st = .ok (.bl false) (((st ++ [IO.lst l]) ++ [IO.lst []]) ++ [IO.lst [.int g.sz]]) :=
    bin_ok (call_ok (c_ok (fM E2) n_ok) e1) (tp_ok (c_ok (ls_ok n_ok (Nat.zero_le _)) (c_ok (ls_ok (c_ok (v_ok (by rw [hE]; rfl)) n_ok) bg1) n_ok)) bg2) (len_in hl)
  obtain ⟨S, hS⟩ : ∃ S, S = (((st ++ [IO.lst l]) ++ [IO.lst []]) ++ [IO.lst [.int g.sz]]) := ⟨_, rfl⟩
  rw [← hS] at s1
  obtain ⟨l2, e2⟩ := all_TC (j := 3) (c := mtB (mBin oEq (mBin oIx (mVar 3) (mC (.int 0))) (mC (.str "call")))) (m := mBin oInD (mBin oIx (mVar 3) (mC (.int 2))) (mVar 1)) (x := mFld okf "own_moves" (mVar 2)) (env := E) (ys := q.ms) (st := S) (B := isCall) (fM E2) (fun y hy => by
    rw [hE]
    rcases hf.mv y hy with ⟨h, t, es, rfl, h1, h2, hl, h3⟩ | ⟨h, n, t, rfl, h1, h2, h3⟩
    · simp [mDef, endR, sRet, sRetN, sE, sSeq, sNx, sIf, sAsg, sExp, asNx, sPar2, sPar3, mVar, mC, mBin, bnd, lf, mB, maC, maN, Sm.ret, Sm.stuck, gNm, gTp, gsC, gsN, gSb, mtB, asB, mtAnd, mtOr, mtNot, mAnd, mOr, mNot, mIf, mCall, mTup, mLst, mDct, mNeg, mIsi, mChain, mSl, mNo, mPt, newL, bg1, bg2, bg3, bg4, bg5, bg6, bg7, bg8, bg9, bg10, bg11, bg12, bg13, bg14, bg15, bg16, bg17, bg18, bg19, bg20, oIx, seqOf, at0, oEq, eqI_str, isCall, setcall]
    · simp [mDef, endR, sRet, sRetN, sE, sSeq, sNx, sIf, sAsg, sExp, asNx, sPar2, sPar3, mVar, mC, mBin, bnd, lf, mB, maC, maN, Sm.ret, Sm.stuck, gNm, gTp, gsC, gsN, gSb, mtB, asB, mtAnd, mtOr, mtNot, mAnd, mOr, mNot, mIf, mCall, mTup, mLst, mDct, mNeg, mIsi, mChain, mSl, mNo, mPt, newL, bg1, bg2, bg3, bg4, bg5, bg6, bg7, bg8, bg9, bg10, bg11, bg12, bg13, bg14, bg15, bg16, bg17, bg18, bg19, bg20, oIx, seqOf, at0, oEq, eqI_str, isCall]) (fun y hy hc => by
    rw [hE]
    rcases hf.mv y hy with ⟨hh, t, es, rfl, h1, h2, hl, h3⟩ | ⟨hh, n, t, rfl, h1, h2, h3⟩
    · have : (("set" : Str) == "call") = true := hc
      rw [setcall] at this
      cases this
    · obtain ⟨cs, rfl, _⟩ := h2
      have mem := h.ca q hq _ hy hh _ t rfl
      obtain ⟨q', hq', eq'⟩ := List.mem_map.mp mem
      have hv := valI_map (N := Pd.nm) (F := Pd.obj) h.nd q' hq'
      rw [eq'] at hv
      simp [mDef, endR, sRet, sRetN, sE, sSeq, sNx, sIf, sAsg, sExp, asNx, sPar2, sPar3, mVar, mC, mBin, bnd, lf, mB, maC, maN, Sm.ret, Sm.stuck, gNm, gTp, gsC, gsN, gSb, mtB, asB, mtAnd, mtOr, mtNot, mAnd, mOr, mNot, mIf, mCall, mTup, mLst, mDct, mNeg, mIsi, mChain, mSl, mNo, mPt, newL, bg1, bg2, bg3, bg4, bg5, bg6, bg7, bg8, bg9, bg10, bg11, bg12, bg13, bg14, bg15, bg16, bg17, bg18, bg19, bg20, oIx, seqOf, at2, oInD, g.dct, Sm.keyOf, hv]) (Nat.le_trans hf.ml (by decide))
  refine ⟨S ++ l2, ?_⟩
  rw [← hE]
  unfold fbody
  rw [seq_nx (if_no (mtB_ok s1))]
  exact if_no (mtNot_ok (mtB_ok e2))
theorem fit_loop (h : PgOk g) : ∀ (k i : Nat) (e2 e3 : Option IV) (st : Hs), i + k = g.objs.length → ∃ e2' st', goFor (.seq (.tup g.objs) g.objs.length) (gNm 2) fbody k i [some (.int g.sz), some (.fd g.keys g.objs), e2, e3] st = .nx [some (.int g.sz), some (.fd g.keys g.objs), e2', e3] st'
  | 0, i, e2, e3, st, ek => ⟨e2, st, for_end (by simp [Src.fin, seqOf])⟩
  | k + 1, i, e2, e3, st, ek => by
    have hi : i < g.ps.length := by have := g.ol; omega
    have hi2 : i < g.objs.length := by omega
    obtain ⟨st1, e1⟩ := fit_step h (List.getElem_mem hi) e3 st
    obtain ⟨e2', st2, e4⟩ := fit_loop h k (i + 1) (some (g.ps[i]).obj) e3 st1 (by omega)
    refine ⟨e2', st2, ?_⟩
    have eo : g.objs[i] = (g.ps[i]).obj := by simp [Pg.objs]
    exact (for_step (x := (g.ps[i]).obj) (by simp [Src.item, seqOf, hi2, eo]) rfl e1).trans e4
theorem fit_T (h : PgOk g) (st : Hs) : runC f_are_fitting [.int g.sz, .fd g.keys g.objs] st = .ok (.bl true) st := clT (by simp [clIs, clI, h.ocl]) (by
  obtain ⟨e2', st', e⟩ := fit_loop h g.objs.length 0 none none [] (Nat.zero_add _)
  refine ⟨st', ?_⟩
  show endR (b_are_fitting [some (.int g.sz), some (.fd g.keys g.objs), none, none] []) = _
  have ei : iVl (mVar 1) [some (.int g.sz), some (.fd g.keys g.objs), none, none] [] = .ok (.seq (.tup g.objs) g.objs.length) [] := by
    unfold iVl bnd
    rw [v_ok rfl]
    dsimp only
    rw [if_pos g.dct0]
  have e1 : sFor (iVl (mVar 1)) (gNm 2) fbody [some (.int g.sz), some (.fd g.keys g.objs), none, none] [] = _ := (for_run ei).trans e
  show endR (sSeq (sFor (iVl (mVar 1)) (gNm 2) fbody) (sRet (mC (.bl true))) [some (.int g.sz), some (.fd g.keys g.objs), none, none] []) = _
  rw [seq_nx e1]
  rfl) st
theorem size_T (h : PgOk g) (st : Hs) : runC f_is_below [.int g.sz, .int 6] st = .ok (.bl true) st := below_T (l := 6) ⟨g.sz, rfl, by have := h.z0; omega, by have := h.z1; omega⟩ (by decide) st
theorem starts_T (h : PgOk g) (st : Hs) : runC f_are_numbers [g.fsI, .int g.sz] st = .ok (.bl true) st := numbers_T (by have := h.z1; omega) (Nat.le_trans h.fl (by decide)) h.fa h.fb st
theorem ginit_ok (h : PgOk g) : ∃ l, f_Program_U_initU_ [.ref 0, .int g.sz, g.fsI, .tup g.objs] [.ins "Program" [] []] = .ok .non (.ins "Program" NSG g.fields :: l) := by
  obtain ⟨E, hE⟩ : ∃ E : Sm.Env, E = [some (.ref 0), some (.int g.sz), some g.fsI, some (.tup g.objs), none] := ⟨_, rfl⟩
  have z0 := h.z0
  have p0 : 0 < g.ps.length := List.length_pos_iff.mpr h.p0
  have p4 := h.p4
  have ol := g.ol
  have E0 : E[0]? = some (some (.ref 0)) := by rw [hE]; rfl
  have E1 : E[1]? = some (some (.int g.sz)) := by rw [hE]; rfl
  have E2 : E[2]? = some (some g.fsI) := by rw [hE]; rfl
  have E3 : E[3]? = some (some (.tup g.objs)) := by rw [hE]; rfl
  have q1 : ∀ st, mtOr (mtNot (mtB (mCall f_is_below (maC (mVar 1) (maC (mBin oAdd (mC (.int 5)) (mC (.int 1))) maN))))) (mtB (mBin oEq (mVar 1) (mC (.int 0)))) E st = .ok false st := fun st => by
    rw [mtOr_f (mtNot_ok (mtB_ok (call_ok (c_ok (v_ok E1) (c_ok rfl n_ok)) (size_T h st))))]
    have : ((g.sz : Int) == 0) = false := by simp; omega
    exact mtB_ok (bin_ok (v_ok E1) rfl (by simp only [oEq, eqI_int, this, Option.map_some]))
  obtain ⟨bs, hbs⟩ : ∃ bs, bs = IO.lst (g.objs.map fun _ => IV.bl true) := ⟨_, rfl⟩
  have q2 : mtOr (mtNot (mtB (mChain oLt oLe (mC (.int 0)) (mB bLen (maC (mVar 3) maN)) (mC (.int 4))))) (mtNot (mtB (mB bAll (maC (mLc (iTp (mVar 3)) (gNm 4) mtYes (mIsC own_cs "Procedure" (mVar 4)) [4]) maN)))) E [.ins "Program" [] []] = .ok false [.ins "Program" [] [], bs] := by
    have c1 : mChain oLt oLe (mC (.int 0)) (mB bLen (maC (mVar 3) maN)) (mC (.int 4)) E [.ins "Program" [] []] = .ok (.bl true) [.ins "Program" [] []] := by
      have a1 : (0 : Int) < g.objs.length := by omega
      have a2 : (g.objs.length : Int) ≤ 4 := by omega
      have a3 := b_ok (f := bLen) (c_ok (v_ok (st := [.ins "Program" [] []]) E3) n_ok) (z := .int g.objs.length) (st2 := [.ins "Program" [] []]) rfl
      simp only [mChain, bnd, mC, a3, oLt, oLe, decide_eq_true a1, decide_eq_true a2, lf, asB, Sm.ret, if_true]
    rw [mtOr_f (mtNot_ok (mtB_ok c1))]
    have c2 := all_TL (i := 3) (j := 4) (m := mIsC own_cs "Procedure" (mVar 4)) (env := E) (ys := g.objs) (st := [.ins "Program" [] []]) E3 (fun y hy => by
      obtain ⟨q, hq, rfl⟩ := List.mem_map.mp hy
      exact isC_own (nm := .str q.nm) (p := q.p) (ms := q.ms) (os := q.os) (by rw [hE]; rfl)) (Nat.le_trans (by omega) (show 4 ≤ big by decide))
    rw [hbs]
    exact mtNot_ok (mtB_ok c2)
  have q3 : ∀ st, mtOr (mtNot (mtB (mCall f_are_numbers (maC (mVar 2) (maC (mVar 1) maN))))) (mtB (mBin oEq (mVar 2) (mTup maN))) E st = .ok false st := fun st => by
    rw [mtOr_f (mtNot_ok (mtB_ok (call_ok (c_ok (v_ok E2) (c_ok (v_ok E1) n_ok)) (starts_T h st))))]
    have : ((g.fs.map IV.int).length == 0) = false := by
      have := List.length_pos_iff.mpr h.f0
      simp
      exact h.f0
    exact mtB_ok (bin_ok (v_ok E2) (tp_ok n_ok (Nat.zero_le _)) (by simp only [oEq, Pg.fsI, eqI_tup0, this, Option.map_some]))
  have ok : ∀ f, f ∈ NSG → okf "Program" f = true := by decide +kernel
  obtain ⟨q, r, hps⟩ : ∃ q r, g.ps = q :: r := by
    cases e : g.ps with
    | nil => exact absurd e h.p0
    | cons q r => exact ⟨q, r, rfl⟩
  have hob : g.objs = q.obj :: r.map Pd.obj := by unfold Pg.objs; rw [hps]; rfl
  have f1 := fldI_hd (ok := okf) (c := "Program") (f := "own_size") (ns := []) (xs := []) (v := .int g.sz) (l := [bs]) (env := E) (m := mVar 1) (v_ok E1) E0 (ok _ (by simp)) (by simp) (by simp) rfl
  have f2 := fldI_hd (ok := okf) (c := "Program") (f := "own_starts") (ns := ["own_size"]) (xs := [.int g.sz]) (v := g.fsI) (l := [bs]) (env := E) (m := mVar 2) (v_ok E2) E0 (ok _ (by simp)) (by decide +kernel) (by simp) rfl
  obtain ⟨N3, hN3⟩ : ∃ N3 : List Str, N3 = ([("own_size" : Str), "own_starts", "own_procedures"] : List Str) := ⟨_, rfl⟩
  obtain ⟨X3, hX3⟩ : ∃ X3 : List IV, X3 = [.int g.sz, g.fsI, .tup g.objs] := ⟨_, rfl⟩
  have f3 : sFldI okf "own_procedures" (mVar 0) (mVar 3) E (.ins "Program" ["own_size", "own_starts"] [.int g.sz, g.fsI] :: [bs]) = .nx E (.ins "Program" N3 X3 :: [bs]) := by
    rw [hN3, hX3]
    exact fldI_hd (ok := okf) (c := "Program") (f := "own_procedures") (ns := ["own_size", "own_starts"]) (xs := [.int g.sz, g.fsI]) (v := .tup g.objs) (l := [bs]) (env := E) (m := mVar 3) (v_ok E3) E0 (ok _ (by simp)) (by decide +kernel) (by simp) rfl
  have d4 : mDcF (iTp (mVar 3)) (gNm 4) mtYes (mFld okf "own_name" (mVar 4)) (mVar 4) [4] E (.ins "Program" N3 X3 :: [bs]) = .ok (.fd g.keys g.objs) (.ins "Program" N3 X3 :: [bs]) := by
    have e := goDc_seq (x := .tup g.objs) (ys := g.objs) (j := 4) (mk := mFld okf "own_name" (mVar 4)) (mv := mVar 4) (env := E.set 4 none) (st := (.ins "Program" N3 X3 :: [bs])) (F := fun y => match y with
      | .obj _ _ (.str z :: _) => .inr z
      | _ => .inl 0) rfl (fun y hy => by
        obtain ⟨q, hq, rfl⟩ := List.mem_map.mp hy
        exact fN (nm := .str q.nm) (p := q.p) (ms := q.ms) (os := q.os) (by rw [hE]; rfl)) (fun y hy => v_ok (by rw [hE]; rfl)) (by
        have : g.objs.map (fun y => match y with
          | .obj _ _ (.str z :: _) => (.inr z : L2.Key)
          | _ => .inl 0) = g.names.map .inr := by
          unfold Pg.objs Pg.names
          rw [List.map_map, List.map_map]
          rfl
        rw [this]
        exact List.Pairwise.map _ (fun a b hab => fun e => by injection e with e; exact hab e) h.nd) (Nat.le_trans (by omega) (show 4 ≤ big by decide)) g.objs.length 0 [] (Nat.zero_add _) rfl
    have ei : iTp (mVar 3) E (.ins "Program" N3 X3 :: [bs]) = .ok (.seq (.tup g.objs) g.objs.length) (.ins "Program" N3 X3 :: [bs]) := by
      unfold iTp bnd
      rw [v_ok E3]
    have k1 : ((g.objs.map fun y => ((match y with
      | .obj _ _ (.str z :: _) => (.inr z : L2.Key)
      | _ => .inl 0), y)).map fun q => q.1) = g.keys := by
      unfold Pg.objs Pg.keys
      rw [List.map_map, List.map_map]
      rfl
    have k2 : ((g.objs.map fun y => ((match y with
      | .obj _ _ (.str z :: _) => (.inr z : L2.Key)
      | _ => .inl 0), y)).map fun q => q.2) = g.objs := by
      rw [List.map_map]
      exact List.map_id _
    unfold mDcF bnd
    rw [ei]
    dsimp only [Src.n, wipeI]
    rw [show goDc _ _ _ _ _ (E.set 4 none) _ _ _ _ = _ from e]
    dsimp only [Sm.ret]
    rw [k1, k2]
  have f4 := fldI_hd (ok := okf) (c := "Program") (f := "own_table") (ns := N3) (xs := X3) (l := [bs]) (env := E) d4 E0 (ok _ (by simp)) (by rw [hN3]; decide +kernel) (by rw [hN3]; simp) (by rw [hN3, hX3]; rfl)
  obtain ⟨N4, hN4⟩ : ∃ N4 : List Str, N4 = N3 ++ [("own_table" : Str)] := ⟨_, rfl⟩
  obtain ⟨X4, hX4⟩ : ∃ X4 : List IV, X4 = X3 ++ [.fd g.keys g.objs] := ⟨_, rfl⟩
  rw [← hN4, ← hX4] at f4
  have d5 : mFld okf "own_name" (mBin oIx (mVar 3) (mC (.int 0))) E (.ins "Program" N4 X4 :: [bs]) = .ok (.str g.main) (.ins "Program" N4 X4 :: [bs]) := by
    have e := ix_ok (m1 := mVar 3) (m2 := mC (.int (0 : Nat))) (env := E) (st := (.ins "Program" N4 X4 :: [bs])) (k := 0) (y := q.obj) (xs := g.objs) (v_ok E3) rfl rfl (by rw [hob]; rfl)
    have em : g.main = q.nm := by unfold Pg.main; rw [hps]
    rw [em]
    exact fld_ok e (by decide +kernel) (by kernel_rfl)
  have f5 := fldI_hd (ok := okf) (c := "Program") (f := "own_main") (ns := N4) (xs := X4) (l := [bs]) (env := E) d5 E0 (ok _ (by simp)) (by rw [hN4, hN3]; decide +kernel) (by rw [hN4, hN3]; simp) (by rw [hN4, hX4, hN3, hX3]; rfl)
  obtain ⟨N5, hN5⟩ : ∃ N5 : List Str, N5 = N4 ++ [("own_main" : Str)] := ⟨_, rfl⟩
  obtain ⟨X5, hX5⟩ : ∃ X5 : List IV, X5 = X4 ++ [.str g.main] := ⟨_, rfl⟩
  rw [← hN5, ← hX5] at f5
  have t5 : mFld okf "own_table" (mVar 0) E (.ins "Program" N5 X5 :: [bs]) = .ok (.fd g.keys g.objs) (.ins "Program" N5 X5 :: [bs]) := fld_hd E0 (ok _ (by simp)) (by rw [hN5, hX5, hN4, hX4, hN3, hX3]; kernel_rfl)
  have q6 : mtOr (mtB (mBin oNe (mB bLenD (maC (mFld okf "own_table" (mVar 0)) maN)) (mB bLen (maC (mVar 3) maN)))) (mtNot (mtB (mCall f_are_fitting (maC (mVar 1) (maC (mFld okf "own_table" (mVar 0)) maN))))) E (.ins "Program" N5 X5 :: [bs]) = .ok false (.ins "Program" N5 X5 :: [bs]) := by
    have e1 : mB bLenD (maC (mFld okf "own_table" (mVar 0)) maN) E (.ins "Program" N5 X5 :: [bs]) = .ok (.int g.objs.length) (.ins "Program" N5 X5 :: [bs]) := b_ok (c_ok t5 n_ok) (by
      simp [bLenD, g.dct, g.ol])
    have e2 : mB bLen (maC (mVar 3) maN) E (.ins "Program" N5 X5 :: [bs]) = .ok (.int g.objs.length) (.ins "Program" N5 X5 :: [bs]) := b_ok (c_ok (v_ok E3) n_ok) rfl
    rw [mtOr_f (mtB_ok (bin_ok e1 e2 (show oNe _ _ _ = some (.bl false, (.ins "Program" N5 X5 :: [bs])) by simp only [oNe, eqI_int, beq_self_eq_true, Option.map_some, Bool.not_true])))]
    exact mtNot_ok (mtB_ok (call_ok (c_ok (v_ok E1) (c_ok t5 n_ok)) (fit_T h _)))
  have f6 := fldI_hd (ok := okf) (c := "Program") (f := "own_kept") (ns := N5) (xs := X5) (v := .fd [] []) (l := [bs]) (env := E) (m := mDctF) rfl E0 (ok _ (by simp)) (by rw [hN5, hN4, hN3]; decide +kernel) (by rw [hN5, hN4, hN3]; simp) (by rw [hN5, hX5, hN4, hX4, hN3, hX3]; rfl)
  obtain ⟨N6, hN6⟩ : ∃ N6 : List Str, N6 = N5 ++ [("own_kept" : Str)] := ⟨_, rfl⟩
  obtain ⟨X6, hX6⟩ : ∃ X6 : List IV, X6 = X5 ++ [.fd [] []] := ⟨_, rfl⟩
  rw [← hN6, ← hX6] at f6
  have f7 := fldI_hd (ok := okf) (c := "Program") (f := "own_shape") (ns := N6) (xs := X6) (v := .tup g.shape) (l := [bs]) (env := E) (m := mTup (maC (mVar 1) (maC (mVar 2) (maC (mVar 3) maN)))) (tp_ok (c_ok (v_ok E1) (c_ok (v_ok E2) (c_ok (v_ok E3) n_ok))) bg3) E0 (ok _ (by simp)) (by rw [hN6, hN5, hN4, hN3]; decide +kernel) (by rw [hN6, hN5, hN4, hN3]; simp) (by rw [hN6, hX6, hN5, hX5, hN4, hX4, hN3, hX3]; rfl)
  have fin : b_Program_U_initU_ E [.ins "Program" [] []] = .nx E (.ins "Program" (N6 ++ [("own_shape" : Str)]) (X6 ++ [.tup g.shape]) :: [bs]) := by
    unfold b_Program_U_initU_
    exact (seq_nx (if_no (q1 _))).trans ((seq_nx (if_no q2)).trans ((seq_nx (if_no (q3 _))).trans ((seq_nx f1).trans ((seq_nx f2).trans ((seq_nx f3).trans ((seq_nx f4).trans ((seq_nx f5).trans ((seq_nx (if_no q6)).trans ((seq_nx f6).trans f7)))))))))
  refine ⟨[bs], ?_⟩
  obtain ⟨S0, hS0⟩ : ∃ S0 : Hs, S0 = [.ins "Program" [] []] := ⟨_, rfl⟩
  rw [← hS0] at fin ⊢
  show endR (b_Program_U_initU_ [some (.ref 0), some (.int g.sz), some g.fsI, some (.tup g.objs), none] S0) = _
  rw [← hE, fin, hN6, hX6, hN5, hX5, hN4, hX4, hN3, hX3]
  rfl
end
end K04

set_option Elab.async false
set_option linter.all false
set_option maxRecDepth 100000
set_option maxHeartbeats 4000000
namespace K04
open Sm L2 PySem PySem.Spec
/-! ### what programs tell -/
section
variable {g : Pg}
theorem gmk_ok (h : PgOk g) {st : Hs} (hn : noIns st = true) : runMk "Program" f_Program_U_initU_ [.int g.sz, g.fsI, .tup g.objs] st = .ok g.obj st := by
  obtain ⟨l, e⟩ := ginit_ok h
  unfold runMk
  rw [if_pos (by simp [Pg.fsI, clIs, clI, cls_ints, h.ocl]), e]
  dsimp only [List.getElem?_cons_zero]
  rw [h.fcl, hn]
  simp only [decide_true, Bool.true_or, Bool.and_true, if_true]
  rfl
theorem go_ok (h : PgOk g) {st : Hs} (hn : noIns st = true) : goMkS "Program" 1 f_Program_U_initU_ g_Program_starts (.int g.sz :: g.objs) [g.fsI] st = .ok g.obj st := by
  unfold goMkS
  have ol := g.ol
  have p4 := h.p4
  rw [if_pos ⟨by simp, Nat.le_trans (show _ ≤ 5 by simp; omega) (by decide)⟩]
  exact gmk_ok h hn
theorem of_T (h : PgOk g) {st : Hs} (hn : noIns st = true) : runC f_Program_of [.cls "Program", .int g.sz, .tup g.objs, g.fsI] st = .ok g.obj st := run_ins (by simp [Pg.fsI, clIs, clI, cls_ints, h.ocl]) h.cl ⟨[], by
  show endR (b_Program_of [some (.cls "Program"), some (.int g.sz), some (.tup g.objs), some g.fsI] []) = _
  unfold b_Program_of
  have e1 : sIf (mtNot (mtB (mIsi "tuple" (mVar 2)))) (sRaise "InvalidProgram") sNx [some (.cls "Program"), some (.int g.sz), some (.tup g.objs), some g.fsI] [] = .nx [some (.cls "Program"), some (.int g.sz), some (.tup g.objs), some g.fsI] [] := if_no (mtNot_ok (mtB_ok (isi_tup (v_ok rfl))))
  rw [seq_nx e1]
  have e2 : maS (mVar 2) maN [some (.cls "Program"), some (.int g.sz), some (.tup g.objs), some g.fsI] [] = .ok g.objs [] := by
    unfold maS bnd
    rw [v_ok rfl]
    simp [seqOf, maN, bnd, Sm.ret]
  have e3 : mClS 0 "Program" 1 f_Program_U_initU_ g_Program_starts (maC (mVar 1) (maS (mVar 2) maN)) (maC (mVar 3) maN) [some (.cls "Program"), some (.int g.sz), some (.tup g.objs), some g.fsI] [] = .ok g.obj [] := by
    unfold mClS bnd
    rw [v_ok rfl]
    dsimp only
    rw [if_pos rfl]
    unfold mMkS bnd
    rw [c_ok (v_ok rfl) e2]
    dsimp only
    rw [c_ok (v_ok rfl) n_ok]
    exact go_ok h rfl
  rw [rt_ok e3]
  rfl⟩ hn
theorem of_ok (h : PgOk g) {es ks : MA} {env : Sm.Env} {st st1 st2 : Hs} (h1 : es env st = .ok [.int g.sz, .tup g.objs] st1) (h2 : ks env st1 = .ok [g.fsI] st2) (hn : noIns st2 = true) : mCm "Program" f_Program_of g_Program_of_starts es ks env st = .ok g.obj st2 := by
  unfold mCm bnd
  rw [h1]
  dsimp only
  rw [h2]
  exact of_T h hn
theorem tyG (st : Hs) : tyOf st g.obj = some (.own "Program") := rfl
theorem gf {f : Str} {v : IV} {m : ME} {env : Sm.Env} {st st' : Hs} (h : m env st = .ok g.obj st') (hok : okf "Program" f = true) (hf : fldOf f NSG g.fields = some v) : mFld okf f m env st = .ok v st' := fld_ok h hok hf
theorem gfD {env : Sm.Env} {st : Hs} {i : Nat} (h : env[i]? = some (some g.obj)) : mFld okf "own_table" (mVar i) env st = .ok (.fd g.keys g.objs) st := gf (v_ok h) (by decide +kernel) (by kernel_rfl)
theorem gfP {env : Sm.Env} {st : Hs} {i : Nat} (h : env[i]? = some (some g.obj)) : mFld okf "own_procedures" (mVar i) env st = .ok (.tup g.objs) st := gf (v_ok h) (by decide +kernel) (by kernel_rfl)
theorem gfZ {env : Sm.Env} {st : Hs} {i : Nat} (h : env[i]? = some (some g.obj)) : mFld okf "own_size" (mVar i) env st = .ok (.int g.sz) st := gf (v_ok h) (by decide +kernel) (by kernel_rfl)
theorem gfS {env : Sm.Env} {st : Hs} {i : Nat} (h : env[i]? = some (some g.obj)) : mFld okf "own_starts" (mVar i) env st = .ok g.fsI st := gf (v_ok h) (by decide +kernel) (by kernel_rfl)
theorem gfM {env : Sm.Env} {st : Hs} {i : Nat} (h : env[i]? = some (some g.obj)) : mFld okf "own_main" (mVar i) env st = .ok (.str g.main) st := gf (v_ok h) (by decide +kernel) (by kernel_rfl)
theorem gfH {env : Sm.Env} {st : Hs} {i : Nat} (h : env[i]? = some (some g.obj)) : mFld okf "own_shape" (mVar i) env st = .ok (.tup g.shape) st := gf (v_ok h) (by decide +kernel) (by kernel_rfl)
theorem gcl (h : PgOk g) : clIs [g.obj] = true := by simp [clIs, h.cl]
theorem size_G (h : PgOk g) (st : Hs) : runC f_Program_size [g.obj] st = .ok (.int g.sz) st := runC_cl (gcl h) rfl ⟨[], def_rt (gfZ rfl)⟩
theorem starts_G (h : PgOk g) (st : Hs) : runC f_Program_starts [g.obj] st = .ok g.fsI st := runC_cl (gcl h) (by simp [Pg.fsI, clI, cls_ints]) ⟨[], def_rt (gfS rfl)⟩ (by simp [Pg.fsI, plI, pls_ints])
theorem main_G (h : PgOk g) (st : Hs) : runC f_Program_main [g.obj] st = .ok (.str g.main) st := runC_cl (gcl h) rfl ⟨[], def_rt (gfM rfl)⟩
theorem procs_G (h : PgOk g) {st : Hs} (hn : noIns st = true) : runC f_Program_procedures [g.obj] st = .ok (.tup g.objs) st := run_ins (gcl h) (by simp [clI, h.ocl]) ⟨[], def_rt (gfP rfl)⟩ hn
def Pg.nmsI (g : Pg) : List IV := g.names.map .str
theorem strs_cl : ∀ zs : List Str, clIs (zs.map IV.str) = true
  | [] => rfl
  | z :: zs => by simp [clIs, clI, strs_cl zs]
theorem strs_pl : ∀ zs : List Str, plIs (zs.map IV.str) = true
  | [] => rfl
  | z :: zs => by simp [plIs, plI, strs_pl zs]
theorem names_G (h : PgOk g) (st : Hs) : runC f_Program_names [g.obj] st = .ok (.tup (g.names.map .str)) st := runC_cl (gcl h) (by simp [clI, strs_cl]) ⟨_, def_rt (tup_ok (xs := g.names.map .str) (b_ok (c_ok (gfD rfl) n_ok) (by
  have : (g.ps.map fun q => ((.inr q.nm : L2.Key), q.obj)).map (fun q => keyI q.1) = g.names.map .str := by
    unfold Pg.names
    rw [List.map_map, List.map_map]
    rfl
  simp only [bLsD, g.dct, Option.bind_some, this, newL]
  rfl)) (by simp))⟩ (by simp [plI, strs_pl])
theorem glen_T (h : PgOk g) (st : Hs) : runC f_Program_U_lenU_ [g.obj] st = .ok (.int g.ps.length) st := runC_cl (gcl h) rfl ⟨[], def_rt (b_ok (c_ok (gfP rfl) n_ok) (show bLen [.tup g.objs] [] = some (.int g.ps.length, []) by rw [← g.ol]; rfl))⟩
theorem ownG (al : Alts) {st : Hs} {f : List IV → M IV} {v : IV} (ha : List.lookup ("Program" : Str) al = some f) (hf : runC f [g.obj] st = .ok v st) : ownC al g.obj st = some (v, st) := by
  simp only [ownC, tyG, ha, hf]
theorem glenO (h : PgOk g) (st : Hs) : bLenO a_U_lenU_ [g.obj] st = some (.int g.ps.length, st) := by
  have h1 := h.p4
  have h2 : (g.ps.length : Int) < 2 ^ 63 := Int.lt_of_le_of_lt (show (g.ps.length : Int) ≤ 4 by omega) (by decide)
  simp only [bLenO, tyG, ownG a_U_lenU_ (show List.lookup ("Program" : Str) a_U_lenU_ = some f_Program_U_lenU_ by kernel_rfl) (glen_T h st)]
  rw [if_pos ⟨by omega, h2⟩]
/-! what is in it -/
def inG (g : Pg) : IV → Bool
  | .str z => decide (z ∈ g.names)
  | _ => false
theorem in_isSome {z : Str} (h : PgOk g) : (valI (g.ps.map fun q => ((.inr q.nm : L2.Key), q.obj)) (.inr z)).isSome = decide (z ∈ g.names) := by
  by_cases q : z ∈ g.names
  · obtain ⟨q', hq', e⟩ := List.mem_map.mp q
    rw [← e, valI_map (N := Pd.nm) (F := Pd.obj) h.nd q' hq', decide_eq_true (show q'.nm ∈ g.names from List.mem_map_of_mem hq')]
    rfl
  · rw [valI_no (N := Pd.nm) (F := Pd.obj) q, decide_eq_false q]
    rfl
/-- the type is known -/
def tyK (st : Hs) (v : IV) : Prop := (∃ t, tyOf st v = some (.bi t)) ∨ ∃ d, d ∈ own_cs ∧ tyOf st v = some (.own d)
def isS : IV → Bool
  | .str _ => true
  | _ => false
theorem isO_str {st : Hs} {v : IV} {i : Nat} {env : Sm.Env} (he : env[i]? = some (some v)) (k : tyK st v) : mIsO own_cs "str" (mVar i) env st = .ok (.bl (isS v)) st := by
  unfold mIsO bnd
  rw [v_ok he]
  dsimp only
  rcases k with ⟨t, e⟩ | ⟨d, hd, e⟩
  · cases v with
    | ref a =>
      have e' := e
      unfold tyOf tyName at e
      dsimp only at e
      rw [e']
      dsimp only
      cases q : st[a]? with
      | none => rw [q] at e; simp [insOf, q] at e
      | some o =>
        rw [q] at e
        cases o with
        | lst _ => cases e; rfl
        | dct _ => cases e; rfl
        | ins _ _ _ => simp [insOf, q] at e
    | obj _ _ _ => cases e
    | fd _ _ => cases e
    | cls _ => cases e
    | _ => cases e; rfl
  · rw [e]
    dsimp only
    rw [if_pos hd]
    cases v with
    | obj _ _ _ => rfl
    | ref _ => rfl
    | fd _ _ => cases e
    | cls _ => cases e
    | _ => cases e
theorem in_def (h : PgOk g) {v : IV} {st : Hs} (k : tyK st v) : f_Program_U_containsU_ [g.obj, v] st = .ok (.bl (inG g v)) st := by
  refine def_rt ?_
  have e1 := isO_str (i := 1) (env := [some g.obj, some v]) rfl k
  cases v with
  | str z =>
    refine (and_t e1).trans (bin_ok (v_ok rfl) (gfD rfl) ?_)
    simp only [oInD, g.dct, Sm.keyOf, in_isSome h, inG]
  | _ => exact and_f e1
theorem in_T (h : PgOk g) {v : IV} {st : Hs} (k : tyK st v) (k0 : clI v = true → tyK [] v) : runC f_Program_U_containsU_ [g.obj, v] st = .ok (.bl (inG g v)) st := by
  by_cases c : clI v = true
  · exact runC_cl (by simp [clIs, h.cl, c]) rfl ⟨[], in_def h (k0 c)⟩
  · unfold runC
    rw [if_neg (by simp [clIs, c])]
    exact in_def h k
theorem inO (h : PgOk g) {neg : Bool} {v : IV} {st : Hs} (k : tyK st v) (k0 : clI v = true → tyK [] v) : oInO neg a_U_containsU_ v g.obj st = some (.bl (inG g v != neg), st) := by
  simp only [oInO, tyG, show List.lookup ("Program" : Str) a_U_containsU_ = some f_Program_U_containsU_ by kernel_rfl, in_T h k k0]
theorem tyK_str (st : Hs) (z : Str) : tyK st (.str z) := .inl ⟨_, rfl⟩
theorem req_T (h : PgOk g) {z : Str} (hz : z ∈ g.names) (st : Hs) : runC f_require_procedure [g.obj, .str z] st = .ok .non st := runC_cl (by simp [clIs, clI, h.cl]) rfl ⟨[], by
  show endR (b_require_procedure [some g.obj, some (.str z)] []) = _
  have e : sIf (mtB (mBin (oInO true a_U_containsU_) (mVar 1) (mVar 0))) sNo sNx [some g.obj, some (.str z)] [] = .nx [some g.obj, some (.str z)] [] := if_no (mtB_ok (bin_ok (v_ok rfl) (v_ok rfl) (by
    rw [inO h (tyK_str _ z) (fun _ => tyK_str _ z)]
    simp [inG, hz])))
  unfold b_require_procedure
  rw [e]
  rfl⟩
theorem get_def (h : PgOk g) {q : Pd} (hq : q ∈ g.ps) (st : Hs) : f_Program_U_getitemU_ [g.obj, .str q.nm] st = .ok q.obj st := by
  show endR (b_Program_U_getitemU_ [some g.obj, some (.str q.nm)] st) = _
  unfold b_Program_U_getitemU_
  have e1 : sExp (mCall f_require_procedure (maC (mVar 0) (maC (mVar 1) maN))) [some g.obj, some (.str q.nm)] st = .nx [some g.obj, some (.str q.nm)] st := by
    unfold sExp sE
    rw [call_ok (c_ok (v_ok rfl) (c_ok (v_ok rfl) n_ok)) (req_T h (List.mem_map_of_mem hq) st)]
    rfl
  rw [seq_nx e1]
  have e2 : mDgt (mFld okf "own_table" (mVar 0)) (mVar 1) [some g.obj, some (.str q.nm)] st = .ok q.obj st := by
    unfold mDgt bnd
    rw [gfD rfl]
    dsimp only
    rw [v_ok rfl]
    simp only [g.dct, Sm.keyOf, valI_map (N := Pd.nm) (F := Pd.obj) h.nd q hq]
  rw [rt_ok e2]
  rfl
theorem get_T (h : PgOk g) {q : Pd} (hq : q ∈ g.ps) {st : Hs} (hn : noIns st = true) : runC f_Program_U_getitemU_ [g.obj, .str q.nm] st = .ok q.obj st := run_ins (by simp [clIs, clI, h.cl]) (h.fm q hq).pocl ⟨[], get_def h hq []⟩ hn
theorem getO (h : PgOk g) {q : Pd} (hq : q ∈ g.ps) {st : Hs} (hn : noIns st = true) : oIxO a_U_getitemU_ g.obj (.str q.nm) st = some (q.obj, st) := by
  simp only [oIxO, tyG, show List.lookup ("Program" : Str) a_U_getitemU_ = some f_Program_U_getitemU_ by kernel_rfl, get_T h hq hn]
end
end K04

set_option Elab.async false
set_option linter.all false
set_option maxRecDepth 100000
set_option maxHeartbeats 4000000
namespace K04
open Sm L2 PySem PySem.Spec
/-! ### == of procedures and programs -/
theorem pd_eq {sz sz' : Nat} {q q' : Pd} (h : Form sz (.str q.nm) q.p q.ms q.os) (h' : Form sz' (.str q'.nm) q'.p q'.ms q'.os) : ∃ b, (∀ st, f_Procedure_U_eqU_ [q.obj, q'.obj] st = .ok (.bl b) st) ∧ (∀ st, runC f_Procedure_U_eqU_ [q.obj, q'.obj] st = .ok (.bl b) st) ∧ (b = true ↔ q = q') := by
  obtain ⟨b, e, hb⟩ := eqAll_ple (eqI_ple 39) q.fl q'.fl (h.pe 35) (h'.pe 35)
  have hb : b = true ↔ q = q' := by
    rw [show ((b && q.fl.length == q'.fl.length) = true) = (b = true) by
      rw [show (q.fl.length == q'.fl.length) = true from rfl, Bool.and_true]] at hb
    exact hb.trans ⟨Pd.fl_inj, fun e => by rw [e]⟩
  have one : ∀ st, f_Procedure_U_eqU_ [q.obj, q'.obj] st = .ok (.bl b) st := fun st => def_rt ((and_t (isC_own (nm := .str q'.nm) (p := q'.p) (ms := q'.ms) (os := q'.os) rfl)).trans (bin_ok (fS (nm := .str q.nm) (p := q.p) (ms := q.ms) (os := q.os) rfl) (fS (nm := .str q'.nm) (p := q'.p) (ms := q'.ms) (os := q'.os) rfl) (by
    have := e st
    simp only [oEq, eqI_tups (show (Sm.fl (.str q.nm) q.p q.ms q.os).length = (Sm.fl (.str q'.nm) q'.p q'.ms q'.os).length from rfl)]
    rw [show eqAll (eqI st 39) (Sm.fl (.str q.nm) q.p q.ms q.os) (Sm.fl (.str q'.nm) q'.p q'.ms q'.os) = some b from this]
    rfl)))
  have c1 : clI q.obj = true := h.pocl
  have c2 : clI q'.obj = true := h'.pocl
  exact ⟨b, one, fun st => runC_cl (by simp [clIs, c1, c2]) rfl ⟨[], one []⟩, hb⟩
theorem sim_pd {sz sz' : Nat} {q q' : Pd} (h : Form sz (.str q.nm) q.p q.ms q.os) (h' : Form sz' (.str q'.nm) q'.p q'.ms q'.os) (s : simB 40 q.obj q'.obj = true) : q = q' := by
  have s : (decide (NS = NS) && simAll (simB 39) [.str q.nm, .int q.p, .tup q.ms, .tup (q.os.map .int), .tup (ats q.p q.ms), .tup q.fl] [.str q'.nm, .int q'.p, .tup q'.ms, .tup (q'.os.map .int), .tup (ats q'.p q'.ms), .tup q'.fl]) = true := s
  simp only [simAll, Bool.and_eq_true] at s
  obtain ⟨_, _, _, _, _, _, s, _⟩ := s
  have := simB_ple 39 (.tup q.fl) (.tup q'.fl) (List.all_eq_true.mpr (h.pe 34)) (List.all_eq_true.mpr (h'.pe 34)) s
  injection this with this
  exact Pd.fl_inj this
theorem eqI_pd (st : Hs) (n : Nat) (q q' : Pd) : eqI st n q.obj q'.obj = none := by
  cases n with
  | zero => rfl
  | succ n => rfl
theorem eqO_pd {sz sz' : Nat} {q q' : Pd} (h : Form sz (.str q.nm) q.p q.ms q.os) (h' : Form sz' (.str q'.nm) q'.p q'.ms q'.os) : ∃ b, (eqO q_Procedure q.obj q'.obj = some b) ∧ (b = true ↔ q = q') := by
  obtain ⟨b, e, _, hb⟩ := pd_eq h h'
  refine ⟨b, ?_, hb⟩
  have c1 : clI q.obj = true := h.pocl
  have c2 : clI q'.obj = true := h'.pocl
  have e := e []
  have sm : (b || !simB 40 q.obj q'.obj) = true := by
    cases b with
    | true => rfl
    | false =>
      cases s : simB 40 q.obj q'.obj with
      | false => rfl
      | true => exact hb.mpr (sim_pd h h' s)
  unfold eqO
  unfold Pd.obj Sm.PO at c1 c2 e sm ⊢
  dsimp only
  have c1 : clIs [IV.str q.nm, .int q.p, .tup q.ms, .tup (q.os.map .int), .tup (ats q.p q.ms), .tup (Sm.fl (.str q.nm) q.p q.ms q.os)] = true := c1
  have c2 : clIs [IV.str q'.nm, .int q'.p, .tup q'.ms, .tup (q'.os.map .int), .tup (ats q'.p q'.ms), .tup (Sm.fl (.str q'.nm) q'.p q'.ms q'.os)] = true := c2
  rw [c1, c2, if_pos (by rfl)]
  rw [show List.lookup ("Procedure" : Str) q_Procedure = some f_Procedure_U_eqU_ by kernel_rfl]
  dsimp only
  rw [e]
  dsimp only
  rw [if_pos sm]
theorem eqD_pd {sz sz' : Nat} {q q' : Pd} (h : Form sz (.str q.nm) q.p q.ms q.os) (h' : Form sz' (.str q'.nm) q'.p q'.ms q'.os) : ∃ b, (∀ st n, eqD q_Procedure st (n + 1) q.obj q'.obj = some b) ∧ (b = true ↔ q = q') := by
  obtain ⟨b, e, hb⟩ := eqO_pd h h'
  refine ⟨b, fun st n => ?_, hb⟩
  unfold eqD
  rw [eqI_pd]
  dsimp only
  rw [e]
theorem eqDs_pd {sz sz' : Nat} : ∀ {ps ps' : List Pd}, (∀ q ∈ ps, Form sz (.str q.nm) q.p q.ms q.os) → (∀ q ∈ ps', Form sz' (.str q.nm) q.p q.ms q.os) → ps.length = ps'.length → ∃ b, (∀ st n, eqDs (eqD q_Procedure st (n + 1)) (ps.map Pd.obj) (ps'.map Pd.obj) = some b) ∧ (b = true ↔ ps = ps')
  | [], [], _, _, _ => ⟨true, fun _ _ => rfl, by simp⟩
  | [], _ :: _, _, _, h => by cases h
  | _ :: _, [], _, _, h => by cases h
  | q :: ps, q' :: ps', h, h', hl => by
    obtain ⟨a, ea, ha⟩ := eqD_pd (h q (by simp)) (h' q' (by simp))
    obtain ⟨b, eb, hb⟩ := eqDs_pd (ps := ps) (ps' := ps') (fun x hx => h x (by simp [hx])) (fun x hx => h' x (by simp [hx])) (by simpa using hl)
    cases a with
    | true =>
      refine ⟨b, fun st n => ?_, ?_⟩
      · rw [List.map_cons, List.map_cons]
        unfold eqDs
        rw [ea st n]
        exact eb st n
      · rw [hb, List.cons.injEq]
        exact ⟨fun e => ⟨ha.mp rfl, e⟩, fun e => e.2⟩
    | false =>
      refine ⟨false, fun st n => ?_, ?_⟩
      · rw [List.map_cons, List.map_cons]
        unfold eqDs
        rw [ea st n]
      · rw [List.cons.injEq]
        exact ⟨fun e => (by cases e), fun e => absurd (ha.mpr e.1) (by simp)⟩
theorem eqI_objs {st : Hs} {n : Nat} {ps ps' : List Pd} (h : ps ≠ []) (h' : ps' ≠ []) : eqAll (eqI st n) (ps.map Pd.obj) (ps'.map Pd.obj) = none := by
  cases ps with
  | nil => exact absurd rfl h
  | cons q ps =>
    cases ps' with
    | nil => exact absurd rfl h'
    | cons q' ps' =>
      rw [List.map_cons, List.map_cons]
      unfold eqAll
      rw [eqI_pd]
section
variable {g g' : Pg}
theorem objs_eqD (h : PgOk g) (h' : PgOk g') (hl : g.ps.length = g'.ps.length) : ∃ b, (∀ st n, eqD q_Procedure st (n + 2) (.tup g.objs) (.tup g'.objs) = some b) ∧ (b = true ↔ g.ps = g'.ps) := by
  obtain ⟨b, e, hb⟩ := eqDs_pd h.fm h'.fm hl
  refine ⟨b, fun st n => ?_, hb⟩
  unfold eqD
  rw [eqI_tt, show eqAll (eqI st (n + 1)) g.objs g'.objs = none from eqI_objs h.p0 h'.p0]
  show seqD st (eqD q_Procedure st (n + 1)) (.tup g.objs) (.tup g'.objs) = _
  unfold seqD
  dsimp only
  rw [if_pos (by rw [g.ol, g'.ol, hl])]
  exact e st n
theorem shape_eq (h : PgOk g) (h' : PgOk g') (hl : g.ps.length = g'.ps.length) : ∃ b, (∀ st, oEqD q_Procedure (.tup g.shape) (.tup g'.shape) st = some (.bl b, st)) ∧ (b = true ↔ g = g') := by
  obtain ⟨b3, e3, h3⟩ := objs_eqD h h' hl
  obtain ⟨b2, e2, h2⟩ := eqI_ple 8 g.fsI g'.fsI (ints_pe 6 _) (ints_pe 6 _)
  have n0 : ∀ st, eqI st 40 (.tup g.shape) (.tup g'.shape) = none := fun st => by
    rw [eqI_tt]
    have e1 : eqI st 39 (.tup g.objs) (.tup g'.objs) = none := by rw [eqI_tt, show eqAll (eqI st 38) g.objs g'.objs = none from eqI_objs h.p0 h'.p0]; rfl
    show (match eqI st 39 (.int g.sz) (.int g'.sz), eqAll (eqI st 39) [g.fsI, .tup g.objs] [g'.fsI, .tup g'.objs] with
      | some a, some b => some (a && b)
      | _, _ => none).map _ = none
    have e4 : eqAll (eqI st 39) [g.fsI, .tup g.objs] [g'.fsI, .tup g'.objs] = none := by
      show (match eqI st 39 g.fsI g'.fsI, (match eqI st 39 (.tup g.objs) (.tup g'.objs), eqAll (eqI st 39) [] [] with
        | some a, some b => some (a && b)
        | _, _ => none) with
        | some a, some b => some (a && b)
        | _, _ => none) = none
      rw [e1]
      cases eqI st 39 g.fsI g'.fsI <;> rfl
    rw [e4]
    cases eqI st 39 (.int g.sz) (.int g'.sz) <;> rfl
  have hz : ((g.sz : Int) == g'.sz) = true ↔ g.sz = g'.sz := by
    rw [beq_iff_eq]
    omega
  have i8 : ∀ st, eqD q_Procedure st 8 (.int g.sz) (.int g'.sz) = some ((g.sz : Int) == g'.sz) := fun st => rfl
  have f8 : ∀ st, eqD q_Procedure st 8 g.fsI g'.fsI = some b2 := fun st => by
    unfold eqD
    rw [e2 st]
  have hf : b2 = true ↔ g.fs = g'.fs := h2.trans ⟨fun e => by
    unfold Pg.fsI at e
    injection e with e
    exact ints_inj e, fun e => by unfold Pg.fsI; rw [e]⟩
  have all : ∀ st, seqD st (eqD q_Procedure st 8) (.tup g.shape) (.tup g'.shape) = some (((g.sz : Int) == g'.sz) && (b2 && b3)) := fun st => by
    unfold seqD
    dsimp only
    rw [if_pos (show g.shape.length = g'.shape.length from rfl)]
    unfold Pg.shape eqDs
    rw [i8 st]
    cases ((g.sz : Int) == g'.sz) with
    | false => rfl
    | true =>
      dsimp only
      unfold eqDs
      rw [f8 st]
      cases b2 with
      | false => rfl
      | true =>
        dsimp only
        unfold eqDs
        rw [e3 st 6]
        cases b3 <;> rfl
  refine ⟨((g.sz : Int) == g'.sz) && (b2 && b3), fun st => ?_, ?_⟩
  · unfold oEqD
    rw [n0 st]
    dsimp only
    rw [all st]
    rfl
  · rw [Bool.and_eq_true, Bool.and_eq_true, hz, hf, h3]
    constructor
    · rintro ⟨a, b, c⟩
      cases g; cases g'
      cases a; cases b; cases c
      rfl
    · rintro rfl
      exact ⟨rfl, rfl, rfl⟩
theorem isG_own {i : Nat} {env : Sm.Env} {st : Hs} (h : env[i]? = some (some g.obj)) : mIsC own_cs "Program" (mVar i) env st = .ok (.bl true) st := by
  unfold mIsC bnd
  rw [v_ok h]
  dsimp only
  rw [tyG]
  dsimp only
  rw [if_pos (by decide +kernel)]
  simp
theorem isG_no {i : Nat} {env : Sm.Env} {st : Hs} {y : IV} (h : env[i]? = some (some y)) (ht : (∃ t, tyOf st y = some (.bi t)) ∨ tyOf st y = some (.own "Procedure")) : mIsC own_cs "Program" (mVar i) env st = .ok (.bl false) st := by
  unfold mIsC bnd
  rw [v_ok h]
  dsimp only
  rcases ht with ⟨t, ht⟩ | ht
  · rw [ht]
  · rw [ht]
    dsimp only
    rw [if_pos (by decide +kernel)]
    rfl
theorem geq_T (h : PgOk g) (h' : PgOk g') (hl : g.ps.length = g'.ps.length) : ∃ b, (∀ st, runC f_Program_U_eqU_ [g.obj, g'.obj] st = .ok (.bl b) st) ∧ (b = true ↔ g = g') := by
  obtain ⟨b, e, hb⟩ := shape_eq h h' hl
  exact ⟨b, fun st => runC_cl (by simp [clIs, h.cl, h'.cl]) rfl ⟨[], def_rt ((and_t (isG_own rfl)).trans (bin_ok (gfH rfl) (gfH rfl) (e [])))⟩, hb⟩
theorem geq_no (h : PgOk g) {y : IV} {st : Hs} (ht : (∃ t, tyOf st y = some (.bi t)) ∨ tyOf st y = some (.own "Procedure")) (h0 : clI y = true → (∃ t, tyOf [] y = some (.bi t)) ∨ tyOf [] y = some (.own "Procedure")) : runC f_Program_U_eqU_ [g.obj, y] st = .ok (.bl false) st := by
  by_cases c : clI y = true
  · exact runC_cl (by simp [clIs, h.cl, c]) rfl ⟨[], def_rt (and_f (isG_no rfl (h0 c)))⟩
  · unfold runC
    rw [if_neg (by simp [clIs, c])]
    exact def_rt (and_f (isG_no rfl ht))
theorem eqX_ok {plain : O2} {neg : Bool} {y : IV} {st : Hs} {b : Bool} (hy : tyK st y) (e : runC f_Program_U_eqU_ [g.obj, y] st = .ok (.bl b) st) : oOwx own_cs plain neg a_U_eqU_ g.obj y st = some (.bl (b != neg), st) := by
  have la : List.lookup ("Program" : Str) a_U_eqU_ = some f_Program_U_eqU_ := by kernel_rfl
  rcases hy with ⟨t, hy⟩ | ⟨d, hd, hy⟩
  · simp only [oOwx, oOwn, tyG, hy, la, goOwn, e]
  · simp only [oOwx, tyG, hy, hd, show ("Program" : Str) ∈ own_cs by decide +kernel, and_self, if_true, la, goOwn, e]
/-- two lists of the same procedures -/
theorem lists_ne (h : PgOk g) {i j : Nat} {st : Hs} (hi : st[i]? = some (.lst g.objs)) (hj : st[j]? = some (.lst g.objs)) : oNeD q_Procedure (.ref i) (.ref j) st = some (.bl false, st) := by
  obtain ⟨b, e, hb⟩ := eqDs_pd h.fm h.fm rfl
  have hb : b = true := hb.mpr rfl
  subst hb
  unfold oNeD
  rw [eqI_refs hi hj rfl, show eqAll (eqI st 39) g.objs g.objs = none from eqI_objs h.p0 h.p0]
  dsimp only
  have : seqD st (eqD q_Procedure st 8) (.ref i) (.ref j) = some true := by
    unfold seqD
    dsimp only
    rw [hi, hj]
    dsimp only [ioL]
    rw [if_pos rfl]
    exact e st 7
  rw [this]
  rfl
end
end K04

set_option Elab.async false
set_option linter.all false
set_option maxRecDepth 100000
set_option maxHeartbeats 4000000
namespace K04
open Sm L2 PySem PySem.Spec
/-! ### the text of a program -/
theorem small_str64 : ∀ k : Fin 64, (Str.ofString (toString (k.val : Int))).length ≤ 2 ∧ (k.val : Int).natAbs.log2 < 1920 := by decide +kernel
theorem int_str64 {i : Int} (h0 : 0 ≤ i) (h1 : i < 64) : (Str.ofString (toString i)).length ≤ 2 ∧ i.natAbs.log2 < 1920 := by
  obtain ⟨n, rfl⟩ := Int.eq_ofNat_of_zero_le h0
  exact small_str64 ⟨n, by omega⟩
theorem strI64 {i : Int} {st : Hs} (h0 : 0 ≤ i) (h1 : i < 64) : bStrO a_U_strU_ [.int i] st = some (.str (Str.ofString (toString i)), st) := by
  unfold bStrO
  dsimp only
  rw [if_pos (int_str64 h0 h1).2]
theorem lits2 : ("program of " : Str).length = 11 ∧ (" procedures, " : Str).length = 13 ∧ (" moves, " : Str).length = 8 ∧ (" numbers" : Str).length = 8 := by decide +kernel
def gx1 (n : Int) : Str := ("program of " : Str) ++ Str.ofString (toString n)
def gx2 (n : Int) : Str := gx1 n ++ " procedures, "
def gx3 (n m : Int) : Str := gx2 n ++ Str.ofString (toString m)
def gx4 (n m : Int) : Str := gx3 n m ++ " moves, "
def gx5 (n m z : Int) : Str := gx4 n m ++ Str.ofString (toString z)
def gx6 (n m z : Int) : Str := gx5 n m z ++ " numbers"
section
variable {n m z : Int}
theorem gx_len (hn : 0 ≤ n ∧ n < 64) (hm : 0 ≤ m ∧ m < 64) (hz : 0 ≤ z ∧ z < 64) : (gx1 n).length ≤ big ∧ (gx2 n).length ≤ big ∧ (gx3 n m).length ≤ big ∧ (gx4 n m).length ≤ big ∧ (gx5 n m z).length ≤ big ∧ (gx6 n m z).length ≤ big := by
  obtain ⟨l1, l2, l3, l4⟩ := lits2
  have a := (int_str64 hn.1 hn.2).1
  have b := (int_str64 hm.1 hm.2).1
  have c := (int_str64 hz.1 hz.2).1
  have bb : 100 ≤ big := by decide
  simp only [gx6, gx5, gx4, gx3, gx2, gx1, slen, l1, l2, l3, l4]
  omega
end
def pmany (g : Pg) : Int := (g.ps.map fun q => (q.ms.length : Int)).sum
theorem many_bd {sz : Nat} : ∀ {ps : List Pd}, (∀ q ∈ ps, Form sz (.str q.nm) q.p q.ms q.os) → 0 ≤ (ps.map fun q => (q.ms.length : Int)).sum ∧ (ps.map fun q => (q.ms.length : Int)).sum ≤ 12 * ps.length
  | [], _ => by simp
  | q :: ps, h => by
    have a := (h q (by simp)).ml
    have b := many_bd (ps := ps) fun x hx => h x (by simp [hx])
    simp only [List.map_cons, List.sum_cons, List.length_cons]
    omega
section
variable {g : Pg}
theorem many_ok (h : PgOk g) : 0 ≤ (pmany g) ∧ (pmany g) < 64 := by
  have a := many_bd h.fm
  have b := h.p4
  unfold pmany
  omega
theorem sumL {st : Hs} {k : Nat} {ns : List Int} (h : st[k]? = some (.lst (ns.map .int))) : bSum [.ref k] st = some (.int ns.sum, st) := by
  unfold bSum
  dsimp only
  simp only [lstOf, h, ioL, Option.bind_some, ints_map, Option.map_some]
theorem gstr_T (h : PgOk g) (st : Hs) : runC f_Program_U_strU_ [g.obj] st = .ok (.str (gx6 g.ps.length (pmany g) g.sz)) st := runC_cl (gcl h) rfl (by
  have hm := many_ok h
  have z0 := h.z0
  have z1 := h.z1
  have p4 := h.p4
  obtain ⟨L1, L2, L3, L4, L5, L6⟩ := gx_len (n := g.ps.length) (m := (pmany g)) (z := g.sz) (by omega) hm (by omega)
  have e := goLc_filt (s := .seq (.tup g.objs) g.objs.length) (g := gNm 2) (c := mtYes) (m := mB (bLenO a_U_lenU_) (maC (mVar 2) maN)) (env := [some g.obj, none, none]) (B := fun _ => true) (F := fun i => .int (match g.ps[i]? with
    | some q => (q.ms.length : Int)
    | none => 0)) (st := []) (by simp [Src.fin, seqOf]) (fun i hi => by
      have hi : i < g.objs.length := hi
      have hi2 : i < g.ps.length := by have := g.ol; omega
      have eo : g.objs[i] = (g.ps[i]).obj := by simp [Pg.objs]
      refine ⟨(g.ps[i]).obj, _, by simp [Src.item, seqOf, hi, eo], rfl, rfl, fun _ => ?_⟩
      rw [List.getElem?_eq_getElem hi2]
      exact b_ok (c_ok (v_ok rfl) n_ok) (lenO_T (h.fm _ (List.getElem_mem hi2)) [])) g.objs.length 0 [] (Nat.zero_add _) (Nat.le_trans (show g.objs.length ≤ 4 by rw [g.ol]; exact p4) (show 4 ≤ big by decide)) (Nat.le_refl _)
  have ea : [] ++ ((List.range' 0 g.objs.length).filter fun _ => true).map (fun i => IV.int (match g.ps[i]? with
    | some q => (q.ms.length : Int)
    | none => 0)) = (g.ps.map fun q => (q.ms.length : Int)).map IV.int := by
    rw [List.filter_eq_self.mpr (fun _ _ => rfl), List.nil_append]
    apply List.ext_getElem
    · simp [g.ol]
    · intro i h1 h2
      have hi : i < g.ps.length := by simpa using h2
      simp [hi]
  rw [ea] at e
  have ei : iTp (mFld okf "own_procedures" (mVar 0)) [some g.obj, none, none] [] = .ok (.seq (.tup g.objs) g.objs.length) [] := by
    unfold iTp bnd
    rw [gfP rfl]
  have e1 := b_ok (f := bSum) (c_ok (lc_ok (vs := [2]) ei e) n_ok) (sumL (ns := g.ps.map fun q => (q.ms.length : Int)) (show ([] ++ [IO.lst ((g.ps.map fun q => (q.ms.length : Int)).map IV.int)] : Hs)[0]? = _ from rfl))
  obtain ⟨S, hS⟩ : ∃ S : Hs, S = [] ++ [IO.lst ((g.ps.map fun q => (q.ms.length : Int)).map IV.int)] := ⟨_, rfl⟩
  rw [← hS] at e1
  refine ⟨S, ?_⟩
  show endR (b_Program_U_strU_ [some g.obj, none, none] []) = _
  unfold b_Program_U_strU_
  rw [seq_nx (asg_ok e1 rfl)]
  obtain ⟨E, hE⟩ : ∃ E : Sm.Env, E = [some g.obj, some (.int (pmany g)), none] := ⟨_, rfl⟩
  show endR (sRet _ [some g.obj, some (.int (pmany g)), none] S) = _
  rw [← hE]
  have E0 : E[0]? = some (some g.obj) := by rw [hE]; rfl
  have E1 : E[1]? = some (some (.int (pmany g))) := by rw [hE]; rfl
  have i1 := int_str64 (i := g.ps.length) (by omega) (by omega)
  have i2 := int_str64 hm.1 hm.2
  have i3 := int_str64 (i := g.sz) (by omega) (by omega)
  have js : mJs [(mC (.str "program of ")), (mFmt (mB bLen (maC (mFld okf "own_procedures" (mVar 0)) maN))), (mC (.str " procedures, ")), (mFmt (mVar 1)), (mC (.str " moves, ")), (mFmt (mFld okf "own_size" (mVar 0))), (mC (.str " numbers"))] E S = .ok (.str (gx6 g.ps.length (pmany g) g.sz)) S := by
    show goJs _ Str.empty _ _ = _
    rw [goJs_ok (y := "program of ") rfl (by rw [sempty, lits2.1]; decide), sempty]
    exact (goJs_ok (acc := "program of ") (fmtI (b_ok (c_ok (gfP E0) n_ok) (show bLen [.tup g.objs] S = some (.int g.ps.length, S) by rw [← g.ol]; rfl)) i1.2) L1).trans
      ((goJs_ok (acc := gx1 g.ps.length) (y := " procedures, ") rfl L2).trans
      ((goJs_ok (acc := gx2 g.ps.length) (fmtI (v_ok E1) i2.2) L3).trans
      ((goJs_ok (acc := gx3 g.ps.length (pmany g)) (y := " moves, ") rfl L4).trans
      ((goJs_ok (acc := gx4 g.ps.length (pmany g)) (fmtI (gfZ E0) i3.2) L5).trans
      (goJs_ok (acc := gx5 g.ps.length (pmany g) g.sz) (y := " numbers") rfl L6)))))
  rw [rt_ok js]
  rfl)
theorem gstrO (h : PgOk g) (st : Hs) : bStrO a_U_strU_ [g.obj] st = some (.str (gx6 g.ps.length (pmany g) g.sz), st) := by
  have := ownG a_U_strU_ (show List.lookup ("Program" : Str) a_U_strU_ = some f_Program_U_strU_ by kernel_rfl) (gstr_T h st)
  unfold Pg.obj at this ⊢
  simp only [bStrO, this]
end
end K04

set_option Elab.async false
set_option linter.all false
set_option maxRecDepth 100000
set_option maxHeartbeats 4000000
namespace K04
open Sm L2 PySem PySem.Spec
/-! ### draws: some of a list -/
def sbody : MS := (sExp (mMth tAppend (mVar 4) (maC (mMth tPop (mVar 3) (maC (mCall f__law_take (maC (mVar 0) (maC (mB bLen (maC (mVar 3) maN)) maN))) maN)) maN)))
structure SJ (a S F : Nat) (st0 : Hs) (xs0 xs ys : List IV) (st : Hs) : Prop where
  gr : Gr a st0 st
  st_ : st[S]? = some (.lst xs)
  fo : st[F]? = some (.lst ys)
  pm : (ys ++ xs).Perm xs0
theorem some_step {a S F : Nat} {st0 st : Hs} {xs0 xs ys : List IV} {x1 x2 x5 : Option IV} (h : SJ a S F st0 xs0 xs ys st) (nS : S ≠ a) (nF : F ≠ a) (nn : S ≠ F) (lS : st0.length ≤ S) (lF : st0.length ≤ F) (hx : 0 < xs.length) (hs : xs.length ≤ 1000) (hy : ys.length ≤ 1000) :
    ∃ xs' ys' st', sbody [some (.ref a), x1, x2, some (.ref S), some (.ref F), x5] st = .nx [some (.ref a), x1, x2, some (.ref S), some (.ref F), x5] st' ∧ SJ a S F st0 xs0 xs' ys' st' ∧ xs'.length + 1 = xs.length ∧ ys'.length = ys.length + 1 := by
  obtain ⟨k, st1, e1, k0, k1, g1, _⟩ := take_run h.gr.urn (xs.length : Int) (by omega) (by omega)
  obtain ⟨m, rfl⟩ := Int.eq_ofNat_of_zero_le k0
  have hm : m < xs.length := by omega
  have bS := g1.lst h.st_ nS
  have bF := g1.lst h.fo nF
  have lS1 : S < st1.length := (List.getElem?_eq_some_iff.mp bS).1
  have lF1 : F < st1.length := (List.getElem?_eq_some_iff.mp bF).1
  have pm : (ys ++ [xs[m]] ++ xs.eraseIdx m).Perm (ys ++ xs) := by
    rw [List.append_assoc]
    refine List.Perm.append_left ys ?_
    show (xs[m] :: xs.eraseIdx m).Perm xs
    rw [List.eraseIdx_eq_take_drop_succ]
    refine List.perm_middle.symm.trans ?_
    rw [← List.drop_eq_getElem_cons hm, List.take_append_drop]
  refine ⟨xs.eraseIdx m, ys ++ [xs[m]], (st1.set S (.lst (xs.eraseIdx m))).set F (.lst (ys ++ [xs[m]])), ?_, ⟨((h.gr.trans g1).setb nS lS).setb nF lF, ?_, ?_, pm.trans h.pm⟩, ?_, by simp⟩
  · have es : seqIndex? (m : Int) xs.length = some m := by
      have n0 : ¬ ((m : Int) < 0) := by omega
      simp only [seqIndex?, if_neg n0]
      simp [hm]
    have hb : ys.length < big := Nat.lt_of_le_of_lt hy (by decide)
    have c1 : -9223372036854775808 ≤ (m : Int) := by omega
    have c2 : (m : Int) < 9223372036854775808 := by omega
    have eF : ∀ o, (st1.set S o)[F]? = some (.lst ys) := fun o => by rw [List.getElem?_set_ne nn]; exact bF
    simp [sbody, mDef, endR, sRet, sRetN, sE, sSeq, sNx, sIf, sAsg, sExp, asNx, sPar2, sPar3, mVar, mC, mBin, bnd, lf, mB, maC, maN, Sm.ret, Sm.stuck, gNm, gTp, gsC, gsN, gSb, mtB, asB, mtAnd, mtOr, mtNot, mAnd, mOr, mNot, mIf, mCall, mTup, mLst, mDct, mNeg, mIsi, mChain, mSl, mNo, mPt, newL, bg1, bg2, bg3, bg4, bg5, bg6, bg7, bg8, bg9, bg10, bg11, bg12, bg13, bg14, bg15, bg16, bg17, bg18, bg19, bg20, mMth, ioL, h.st_, h.fo, bLen, seqOf, lstOf, e1, tPop, bS, es, hm, c1, c2, tAppend, eF, hb]
  · rw [List.getElem?_set_ne (Ne.symm nn), List.getElem?_set_self lS1]
  · rw [List.getElem?_set_self (by simp [lF1])]
  · rw [List.length_eraseIdx, if_pos hm]
    omega
theorem some_loop {a S F : Nat} {st0 : Hs} {xs0 : List IV} {x1 x2 : Option IV} {n : Nat} (nS : S ≠ a) (nF : F ≠ a) (nn : S ≠ F) (lS : st0.length ≤ S) (lF : st0.length ≤ F) : ∀ (k i : Nat) (x5 : Option IV) (xs ys : List IV) (st : Hs), i + k = n → SJ a S F st0 xs0 xs ys st → k ≤ xs.length → xs.length + ys.length ≤ 1000 →
    ∃ env xs' ys' st', goFor (.rng 0 n) (gNm 5) sbody k i [some (.ref a), x1, x2, some (.ref S), some (.ref F), x5] st = .nx env st' ∧ env[4]? = some (some (.ref F)) ∧ SJ a S F st0 xs0 xs' ys' st' ∧ ys'.length = ys.length + k
  | 0, i, x5, xs, ys, st, ek, h, hk, hl => ⟨_, xs, ys, st, rfl, rfl, h, rfl⟩
  | k + 1, i, x5, xs, ys, st, ek, h, hk, hl => by
    obtain ⟨xs1, ys1, st1, e1, h1, l1, l2⟩ := some_step (x1 := x1) (x2 := x2) (x5 := some (.int (0 + (i : Int)))) h nS nF nn lS lF (by omega) (by omega) (by omega)
    obtain ⟨env, xs2, ys2, st2, e2, ev, h2, l3⟩ := some_loop (n := n) nS nF nn lS lF k (i + 1) (some (.int (0 + (i : Int)))) xs1 ys1 st1 (by omega) h1 (by omega) (by omega)
    refine ⟨env, xs2, ys2, st2, ?_, ev, h2, by omega⟩
    unfold goFor
    have hi : i < n := by omega
    simp only [Src.item, hi, if_true, gNm, Sm.ret, List.set_cons_succ, List.set_cons_zero]
    rw [e1]
    exact e2
theorem some_run {st : Hs} {a b : Nat} {xs : List IV} {lots : Int} (h : Urn st a) (hb : st[b]? = some (.lst xs)) (nb : b ≠ a) (hx : xs.length ≤ 60) (h0 : 0 ≤ lots) :
    ∃ (F : Nat) (ys rest : List IV) (st' : Hs), runC f__law_some [.ref a, .ref b, .int lots] st = .ok (.ref F) st' ∧ st'[F]? = some (.lst ys) ∧ (ys ++ rest).Perm xs ∧ (ys.length : Int) = (if (xs.length : Int) < lots then (xs.length : Int) else lots) ∧ F ≠ a ∧ st.length ≤ F ∧ Gr a st st' := by
  have la := h.lt
  obtain ⟨n, hn⟩ : ∃ n : Nat, n = (if (xs.length : Int) < lots then (xs.length : Int) else lots).toNat := ⟨_, rfl⟩
  have n1 : n ≤ xs.length := by rw [hn]; split <;> omega
  have n3 : (if (xs.length : Int) < lots then (xs.length : Int) else lots) = (n : Int) := by rw [hn]; split <;> omega
  obtain ⟨env, xs', ys', st', e2, ev, h2, l2⟩ := some_loop (a := a) (S := st.length) (F := st.length + 1) (st0 := st) (xs0 := xs) (x1 := some (.ref b)) (x2 := some (.int lots)) (n := n) (by omega) (by omega) (by omega) (Nat.le_refl _) (by omega) n 0 none xs [] (st ++ [.lst xs, .lst []]) (Nat.zero_add _)
    ⟨Gr.app h, by simp, by rw [List.getElem?_append_right (by omega)]; simp, by simp⟩ n1 (by simp; omega)
  refine ⟨st.length + 1, ys', xs', st', ?_, h2.fo, h2.pm, by rw [n3]; simp at l2; omega, by omega, by omega, h2.gr⟩
  rw [runC_ref]
  have e3 : sFor (iRg1 (maC (mB bMin (maC (mVar 2) (maC (mB bLen (maC (mVar 1) maN)) maN))) maN)) (gNm 5) sbody [some (.ref a), some (.ref b), some (.int lots), some (.ref st.length), some (.ref (st.length + 1)), none] (st ++ [.lst xs, .lst []]) = .nx env st' := by
    have hb2 : (st ++ [IO.lst xs, .lst []])[b]? = some (.lst xs) := (Gr.app h).lst hb nb
    have ei : iRg1 (maC (mB bMin (maC (mVar 2) (maC (mB bLen (maC (mVar 1) maN)) maN))) maN) [some (.ref a), some (.ref b), some (.int lots), some (.ref st.length), some (.ref (st.length + 1)), none] (st ++ [.lst xs, .lst []]) = .ok (.rng 0 n) (st ++ [.lst xs, .lst []]) := by
      refine rg1_nat ?_ (by omega)
      simp only [mDef, endR, sRet, sRetN, sE, sSeq, sNx, sIf, sAsg, sExp, asNx, sPar2, sPar3, mVar, mC, mBin, bnd, lf, mB, maC, maN, Sm.ret, Sm.stuck, gNm, gTp, gsC, gsN, gSb, mtB, asB, mtAnd, mtOr, mtNot, mAnd, mOr, mNot, mIf, mCall, mTup, mLst, mDct, mNeg, mIsi, mChain, mSl, mNo, mPt, newL, bg1, bg2, bg3, bg4, bg5, bg6, bg7, bg8, bg9, bg10, bg11, bg12, bg13, bg14, bg15, bg16, bg17, bg18, bg19, bg20, List.getElem?_cons_zero, List.getElem?_cons_succ, bMin, bLen, seqOf, lstOf, ioL, hb2, Option.map_some, n3]
    unfold sFor sE
    rw [ei]
    exact e2
  unfold f__law_some b__law_some
  show endR (sSeq _ (sSeq (sFor (iRg1 (maC (mB bMin (maC (mVar 2) (maC (mB bLen (maC (mVar 1) maN)) maN))) maN)) (gNm 5) sbody) _) _ _) = _
  generalize sFor (iRg1 (maC (mB bMin (maC (mVar 2) (maC (mB bLen (maC (mVar 1) maN)) maN))) maN)) (gNm 5) sbody = lp at e3 ⊢
  simp [mDef, endR, sRet, sRetN, sE, sSeq, sNx, sIf, sAsg, sExp, asNx, sPar2, sPar3, mVar, mC, mBin, bnd, lf, mB, maC, maN, Sm.ret, Sm.stuck, gNm, gTp, gsC, gsN, gSb, mtB, asB, mtAnd, mtOr, mtNot, mAnd, mOr, mNot, mIf, mCall, mTup, mLst, mDct, mNeg, mIsi, mChain, mSl, mNo, mPt, newL, bg1, bg2, bg3, bg4, bg5, bg6, bg7, bg8, bg9, bg10, bg11, bg12, bg13, bg14, bg15, bg16, bg17, bg18, bg19, bg20, bList, seqOf, lstOf, ioL, hb, e3, ev]
/-! ### some numbers below n, ascending -/
def toI : IV → Int
  | .int i => i
  | _ => 0
def rngI (n : Nat) : List Int := (List.range n).map fun (i : Nat) => (i : Int)
theorem rngI_nd (n : Nat) : (rngI n).Nodup := List.Pairwise.map _ (fun a b (hab : a ≠ b) => by omega) List.nodup_range
theorem rngI_bd {n : Nat} {x : Int} (h : x ∈ rngI n) : 0 ≤ x ∧ x < n := by
  obtain ⟨i, hi, rfl⟩ := List.mem_map.mp h
  have := List.mem_range.mp hi
  omega
theorem ints_of {ys rest : List IV} {R : List Int} (h : (ys ++ rest).Perm (R.map .int)) : ∃ is : List Int, ys = is.map .int ∧ (R.Nodup → is.Nodup) ∧ ∀ i ∈ is, i ∈ R := by
  have hall : ∀ y ∈ ys, ∃ i, y = .int i ∧ i ∈ R := fun y hy => by
    obtain ⟨i, hi, e⟩ := List.mem_map.mp (h.mem_iff.mp (List.mem_append_left _ hy))
    exact ⟨i, e.symm, hi⟩
  have e : ys = (ys.map toI).map .int := by
    rw [List.map_map]
    conv => lhs; rw [← List.map_id ys]
    refine List.map_congr_left fun y hy => ?_
    obtain ⟨i, rfl, _⟩ := hall y hy
    rfl
  refine ⟨ys.map toI, e, fun nd => ?_, fun i hi => ?_⟩
  · have n1 : (R.map IV.int).Nodup := List.Pairwise.map _ (fun a b (hab : a ≠ b) => fun e => by cases e; exact hab rfl) nd
    have n2 := (List.nodup_append.mp (h.nodup_iff.mpr n1)).1
    rw [e] at n2
    exact List.Pairwise.of_map _ (fun a b hab => fun e => hab (by rw [e])) n2
  · obtain ⟨y, hy, rfl⟩ := List.mem_map.mp hi
    obtain ⟨i, rfl, hm⟩ := hall y hy
    exact hm
/-- tuple(sorted(_law_some(urn, list(range(n)), lots))) -/
theorem outs_ok {st : Hs} {a k n : Nat} {env : Sm.Env} {LM : ME} {Q : Int → Prop} (h : Urn st a) (e0 : env[0]? = some (some (.ref a))) (ek : env[k]? = some (some (.int n))) (hn : n ≤ 12) (hl : ∀ st1, Urn st1 a → Gr a st st1 → ∃ l st2, LM env st1 = .ok (.int l) st2 ∧ 0 ≤ l ∧ Q l ∧ Gr a st1 st2) :
    ∃ (os : List Int) (st' : Hs) (l : Int), mB bTuple (maC (mB bSorted (maC (mCall f__law_some (maC (mVar 0) (maC (mLsRg (mVar k)) (maC LM maN)))) maN)) maN) env st = .ok (.tup (os.map .int)) st' ∧ os.Pairwise (· < ·) ∧ (∀ o ∈ os, 0 ≤ o ∧ o < n) ∧ Q l ∧ (os.length : Int) = (if (n : Int) < l then (n : Int) else l) ∧ Gr a st st' := by
  obtain ⟨R, hR⟩ : ∃ R : List Int, R = rngI n := ⟨_, rfl⟩
  have rl : R.length = n := by rw [hR]; simp [rngI]
  have u1 := (Gr.app (l := [IO.lst (R.map .int)]) h)
  obtain ⟨l, st2, e2, k0, ql, g2⟩ := hl _ u1.urn u1
  have nb : st.length ≠ a := by have := h.lt; omega
  have b2 := g2.lst (b := st.length) (xs := R.map .int) (by simp) nb
  obtain ⟨F, ys, rest, st3, e3, b3, pm, l3, nF, lF, g3⟩ := some_run (lots := l) g2.urn b2 nb (by simp; omega) k0
  obtain ⟨is, ei, nd, mi⟩ := ints_of pm
  subst ei
  have pm2 := perm_srtI (l := is)
  have nd3 := nd (by rw [hR]; exact rngI_nd n)
  have l12 : is.length ≤ 12 := by
    rw [List.length_map, List.length_map, rl] at l3
    by_cases q : (n : Int) < l
    · rw [if_pos q] at l3; omega
    · rw [if_neg q] at l3; omega
  refine ⟨srtI is, st3 ++ [.lst ((srtI is).map .int)], l, ?_, ?_, fun o ho => ?_, ql, ?_, ((u1.trans g2).trans g3).trans (Gr.app g3.urn)⟩
  · have c1 : -4611686018427387904 ≤ (n : Int) := by omega
    have c2 : (n : Int) ≤ 16777216 := by omega
    have er : (List.range (n : Int).toNat).map (fun (i : Nat) => IV.int i) = R.map .int := by
      rw [hR, rngI, List.map_map, Int.toNat_natCast]
      rfl
    have l64 : is.length < 64 := by omega
    have r1 : mLsRg (mVar k) env st = .ok (.ref st.length) (st ++ [.lst (R.map .int)]) := by
      unfold mLsRg bnd
      rw [v_ok ek]
      dsimp only
      rw [if_pos ⟨c1, c2⟩, er]
    have r2 : mB bSorted (maC (mCall f__law_some (maC (mVar 0) (maC (mLsRg (mVar k)) (maC LM maN)))) maN) env st = .ok (.ref st3.length) (st3 ++ [.lst ((srtI is).map .int)]) := by
      refine b_ok (c_ok (call_ok (c_ok (v_ok e0) (c_ok r1 (c_ok e2 n_ok))) e3) n_ok) ?_
      simp only [bSorted, lstOf, b3, ioL, Option.bind_some, ints_map, if_pos l64, newL]
    exact tup_ok r2 (by simp)
  · have := (ord_srtI (l := is)).and (pm2.nodup_iff.mpr nd3)
    exact this.imp fun {x y} h => by
      have := h.1
      have := h.2
      omega
  · have := mi o (pm2.mem_iff.mp ho)
    rw [hR] at this
    exact rngI_bd this
  · rw [pm2.length_eq]
    rw [List.length_map, List.length_map, rl] at l3
    exact l3
/-! ### moves -/
def pl6 (sz : Nat) (fs : List Int) (N P O M : Nat) : List (L2.Key × IV) := [(.inr "size", .int sz), (.inr "names", .ref N), (.inr "firsts", .tup (fs.map .int)), (.inr "points", .ref P), (.inr "outs", .ref O), (.inr "moves", .ref M)]
section
variable {sz : Nat} {fs : List Int} {N P O M : Nat}
theorem v_size : valI (pl6 sz fs N P O M) (.inr "size") = some (.int sz) := by kernel_rfl
theorem v_names : valI (pl6 sz fs N P O M) (.inr "names") = some (.ref N) := by kernel_rfl
theorem v_firsts : valI (pl6 sz fs N P O M) (.inr "firsts") = some (.tup (fs.map .int)) := by kernel_rfl
theorem v_points : valI (pl6 sz fs N P O M) (.inr "points") = some (.ref P) := by kernel_rfl
theorem v_outs : valI (pl6 sz fs N P O M) (.inr "outs") = some (.ref O) := by kernel_rfl
theorem v_moves : valI (pl6 sz fs N P O M) (.inr "moves") = some (.ref M) := by kernel_rfl
end
theorem dg_ok {m1 m2 : ME} {env : Sm.Env} {st st1 st2 : Hs} {D : Nat} {y z : IV} {kvs : List (L2.Key × IV)} {k : L2.Key} (h1 : m1 env st = .ok (.ref D) st1) (h2 : m2 env st1 = .ok y st2) (hd : st2[D]? = some (.dct kvs)) (hk : Sm.keyOf y = some k) (hv : valI kvs k = some z) : mDgt m1 m2 env st = .ok z st2 := by
  unfold mDgt bnd
  rw [h1]
  dsimp only
  rw [h2]
  simp only [dctI, hd, hk, hv]
theorem dpt_ok {mo mi mv : ME} {env : Sm.Env} {st st1 st2 st3 : Hs} {P : Nat} {v y : IV} {kvs : List (L2.Key × IV)} {k : L2.Key} (hv : mv env st = .ok v st1) (ho : mo env st1 = .ok (.ref P) st2) (hi : mi env st2 = .ok y st3) (hk : Sm.keyOf y = some k) (hd : st3[P]? = some (.dct kvs)) (hl : kvs.length < big) : sDpt mo mi mv env st = .nx env (st3.set P (.dct (putD kvs k v))) := by
  unfold sDpt sE
  rw [hv]
  dsimp only
  rw [ho]
  dsimp only
  rw [hi]
  simp only [hk, hd, if_pos hl]
theorem Gr.at {a b : Nat} {st st' : Hs} {o : IO} (g : Gr a st st') (h : st[b]? = some o) (n : b ≠ a) : st'[b]? = some o := (g.fr b n (List.getElem?_eq_some_iff.mp h).1).trans h
/-- a plain program lies at D: p1 the points, o1 the ends, rs the procedures with their lists of moves -/
structure Pl (a sz : Nat) (fs : List Int) (ns : List Str) (p1 : List (Str × Int)) (o1 : List (Str × List Int)) (rs : List (Pd × Nat)) (D N P O M : Nat) (st : Hs) : Prop where
  nD : D ≠ a
  nN : N ≠ a
  nP : P ≠ a
  nO : O ≠ a
  nM : M ≠ a
  d : st[D]? = some (.dct (pl6 sz fs N P O M))
  n : st[N]? = some (.lst (ns.map .str))
  p : st[P]? = some (.dct (p1.map fun r => ((.inr r.1 : L2.Key), IV.int r.2)))
  o : st[O]? = some (.dct (o1.map fun r => ((.inr r.1 : L2.Key), IV.tup (r.2.map .int))))
  m : st[M]? = some (.dct (rs.map fun r => ((.inr r.1.nm : L2.Key), IV.ref r.2)))
  ls : ∀ r ∈ rs, r.2 ≠ a ∧ st[r.2]? = some (.lst r.1.ms)
theorem Pl.gr {a sz : Nat} {fs : List Int} {ns : List Str} {p1 : List (Str × Int)} {o1 : List (Str × List Int)} {rs : List (Pd × Nat)} {D N P O M : Nat} {st st' : Hs} (h : Pl a sz fs ns p1 o1 rs D N P O M st) (g : Gr a st st') : Pl a sz fs ns p1 o1 rs D N P O M st' :=
  ⟨h.nD, h.nN, h.nP, h.nO, h.nM, Gr.at g h.d h.nD, Gr.at g h.n h.nN, Gr.at g h.p h.nP, Gr.at g h.o h.nO, Gr.at g h.m h.nM, fun r hr => ⟨(h.ls r hr).1, Gr.at g (h.ls r hr).2 (h.ls r hr).1⟩⟩
theorem entries_run {st : Hs} {a sz : Nat} (h : Urn st a) (h0 : 1 ≤ sz) (h1 : sz ≤ 5) : ∃ es st', runC f__law_entries [.ref a, .int sz] st = .ok (.tup es) st' ∧ es.length = sz ∧ (∀ e ∈ es, e = .non ∨ Ix e sz) ∧ Gr a st st' := by
  obtain ⟨xs, st4, e4, l4, p4, g4⟩ := goLc_all (s := .rng 0 sz) (g := gNm 2) (m := (mIf (mtB (mBin oEq (mCall f__law_take (maC (mVar 0) (maC (mC (.int 5)) maN))) (mC (.int 0)))) (mC .non) (mCall f__law_take (maC (mVar 0) (maC (mVar 1) maN))))) (env := [some (.ref a), some (.int sz), none])
    (Pr := fun e => e = .non ∨ Ix e sz) (Rl := Gr a) (fun _ _ g => Gr.refl g.urn) (fun _ _ _ x y => x.trans y) (fun _ _ => rfl) (fun t st ht g => by
      have ht : t < sz := ht
      obtain ⟨k, s1, e1, k0, k1, g1, _⟩ := take_run g.urn 5 (by decide) (by decide)
      by_cases q : k = 0
      · refine ⟨.int (0 + t), _, .non, s1, by simp [Src.item, ht], rfl, ?_, .inl rfl, g1⟩
        exact (mIf_t (mtB_ok (bin_ok (call_ok (c_ok (v_ok rfl) (c_ok rfl n_ok)) e1) rfl (by simp only [oEq, eqI_int, q]; rfl)))).trans rfl
      · obtain ⟨j, s2, e2, j0, j1, g2, _⟩ := take_run g1.urn (sz : Int) (by omega) (by omega)
        refine ⟨.int (0 + t), _, .int j, s2, by simp [Src.item, ht], rfl, ?_, .inr ⟨j, rfl, j0, j1⟩, g1.trans g2⟩
        have : (k == 0) = false := by simp [q]
        exact (mIf_f (mtB_ok (bin_ok (call_ok (c_ok (v_ok rfl) (c_ok rfl n_ok)) e1) rfl (by simp only [oEq, eqI_int, this]; rfl)))).trans (call_ok (c_ok (v_ok rfl) (c_ok (v_ok rfl) n_ok)) e2)) sz 0 [] st (Nat.zero_add _) (Nat.le_trans h1 (by decide)) rfl (Gr.refl h) (by simp)
  have l4 : xs.length = sz := l4
  refine ⟨xs, st4 ++ [.lst xs], ?_, l4, p4, g4.trans (Gr.app g4.urn)⟩
  rw [runC_ref]
  show endR (b__law_entries [some (.ref a), some (.int sz), none] st) = _
  unfold b__law_entries
  rw [rt_ok (tup_ok (xs := xs) (lc_ok (rg1_nat (c_ok (v_ok rfl) n_ok) (by omega)) e4) (by simp))]
  rfl
section
variable {a sz : Nat} {fs : List Int} {ns : List Str} {p1 : List (Str × Int)} {o1 : List (Str × List Int)} {rs : List (Pd × Nat)} {D N P O M : Nat} {st : Hs}
theorem move_run (h : Urn st a) (hp : Pl a sz fs ns p1 o1 rs D N P O M st) (h0 : 1 ≤ sz) (h1 : sz ≤ 5) (hn : ns ≠ []) (hl : ns.length ≤ 10) (hnm : ∀ n ∈ ns, Nm (.str n)) (nd : (p1.map (·.1)).Nodup) {r : Str × Int} (hr : r ∈ p1) (b0 : 1 ≤ r.2) (b1 : r.2 ≤ 6) :
    ∃ m st', runC f__law_move [.ref a, .ref D, .str r.1] st = .ok m st' ∧ Mv r.2 sz m ∧ CallIn ns m ∧ Gr a st st' := by
  obtain ⟨i, st1, e1, i0, i1, g1, _⟩ := take_run h r.2 (by omega) (by omega)
  obtain ⟨j, st2, e2, j0, j1, g2, _⟩ := take_run g1.urn r.2 (by omega) (by omega)
  obtain ⟨t, st3, e3, t0, t1, g3, _⟩ := take_run g2.urn 5 (by decide) (by decide)
  have G := (g1.trans g2).trans g3
  have hp3 := hp.gr G
  obtain ⟨E, hE⟩ : ∃ E : Sm.Env, E = [some (.ref a), some (.ref D), some (.str r.1), some (.int r.2), some (.int i), some (.int j)] := ⟨_, rfl⟩
  have s1 : sAsg (mDgt (mDgt (mVar 1) (mC (.str "points"))) (mVar 2)) (gNm 3) [some (.ref a), some (.ref D), some (.str r.1), none, none, none] st = .nx [some (.ref a), some (.ref D), some (.str r.1), some (.int r.2), none, none] st :=
    asg_ok (dg_ok (dg_ok (v_ok rfl) rfl hp.d rfl v_points) (v_ok rfl) hp.p rfl (valI_map (N := fun r : Str × Int => r.1) (F := fun r => IV.int r.2) nd r hr)) rfl
  have s2 : sPar2 4 5 (maC (mCall f__law_take (maC (mVar 0) (maC (mVar 3) maN))) (maC (mCall f__law_take (maC (mVar 0) (maC (mVar 3) maN))) maN)) [some (.ref a), some (.ref D), some (.str r.1), some (.int r.2), none, none] st = .nx E st2 := by
    unfold sPar2 sE
    rw [c_ok (call_ok (c_ok (v_ok rfl) (c_ok (v_ok rfl) n_ok)) e1) (c_ok (call_ok (c_ok (v_ok rfl) (c_ok (v_ok rfl) n_ok)) e2) n_ok), hE]
    rfl
  have E0 : E[0]? = some (some (.ref a)) := by rw [hE]; rfl
  have E1 : E[1]? = some (some (.ref D)) := by rw [hE]; rfl
  have E4 : E[4]? = some (some (.int i)) := by rw [hE]; rfl
  have E5 : E[5]? = some (some (.int j)) := by rw [hE]; rfl
  have c3 : mtB (mBin oLt (mCall f__law_take (maC (mVar 0) (maC (mC (.int 5)) maN))) (mC (.int 3))) E st2 = .ok (decide (t < 3)) st3 := mtB_ok (bin_ok (call_ok (c_ok (v_ok E0) (c_ok rfl n_ok)) e3) rfl rfl)
  rw [runC_ref]
  show ∃ m st', endR (b__law_move [some (.ref a), some (.ref D), some (.str r.1), none, none, none] st) = .ok m st' ∧ _
  unfold b__law_move
  rw [seq_nx s1, seq_nx s2]
  by_cases q : t < 3
  · rw [decide_eq_true q] at c3
    obtain ⟨es, st4, e4, l4, p4, g4⟩ := entries_run g3.urn h0 h1
    refine ⟨.tup [.str "set", .int i, .tup es, .int j], st4, ?_, .inl ⟨_, _, _, rfl, ⟨i, rfl, i0, i1⟩, ⟨j, rfl, j0, j1⟩, l4, p4⟩, fun h n t e => ?_, G.trans g4⟩
    · have : sIf (mtB (mBin oLt (mCall f__law_take (maC (mVar 0) (maC (mC (.int 5)) maN))) (mC (.int 3)))) (sRet (mTup (maC (mC (.str "set")) (maC (mVar 4) (maC (mCall f__law_entries (maC (mVar 0) (maC (mDgt (mVar 1) (mC (.str "size"))) maN))) (maC (mVar 5) maN)))))) sNx E st2 = .rt (.tup [.str "set", .int i, .tup es, .int j]) st4 :=
        (if_yes c3).trans (rt_ok (tp_ok (c_ok rfl (c_ok (v_ok E4) (c_ok (call_ok (c_ok (v_ok E0) (c_ok (dg_ok (v_ok E1) rfl hp3.d rfl v_size) n_ok)) e4) (c_ok (v_ok E5) n_ok)))) bg4))
      unfold sSeq
      rw [this]
      rfl
    · injection e with e
      injection e with e _
      injection e with e
      have := setcall
      rw [e] at this
      simp at this
  · rw [decide_eq_false q] at c3
    obtain ⟨x, st4, e4, m4, g4, _⟩ := one_run g3.urn hp3.n hp.nN (by rw [List.length_map]; exact List.length_pos_iff.mpr hn) (by rw [List.length_map]; omega)
    obtain ⟨s, ms, rfl⟩ := List.mem_map.mp m4
    refine ⟨.tup [.str "call", .int i, .str s, .int j], st4, ?_, .inr ⟨_, _, _, rfl, ⟨i, rfl, i0, i1⟩, hnm s ms, ⟨j, rfl, j0, j1⟩⟩, fun h n t e => ?_, G.trans g4⟩
    · rw [seq_nx (if_no c3)]
      rw [rt_ok (tp_ok (c_ok rfl (c_ok (v_ok E4) (c_ok (call_ok (c_ok (v_ok E0) (c_ok (dg_ok (v_ok E1) rfl hp3.d rfl v_names) n_ok)) e4) (c_ok (v_ok E5) n_ok)))) bg4)]
      rfl
    · simp only [IV.tup.injEq, List.cons.injEq, IV.str.injEq, and_true] at e
      rw [← e.2.2.1]
      exact ms
end
end K04

set_option Elab.async false
set_option linter.all false
set_option maxRecDepth 100000
set_option maxHeartbeats 4000000
namespace K04
open Sm L2 PySem PySem.Spec
/-! ### the drawn plain program -/
section
variable {a sz : Nat} {fs : List Int} {ns : List Str} {p1 : List (Str × Int)} {o1 : List (Str × List Int)} {rs : List (Pd × Nat)} {D N P O M : Nat} {st st0 : Hs}
theorem ne_ld {i j : Nat} {xs : List IV} {kvs : List (L2.Key × IV)} (h : st[i]? = some (.lst xs)) (g : st[j]? = some (.dct kvs)) : i ≠ j := fun e => by rw [e, g] at h; cases h
structure Ord (a D N P O M : Nat) : Prop where
  dn : D < N
  np : N < P
  po : P < O
  om : O < M
theorem Pl.setP (h : Pl a sz fs ns p1 o1 rs D N P O M st) (q : Ord a D N P O M) {n : Str} {v : Int} (hn : n ∉ p1.map (·.1)) : Pl a sz fs ns (p1 ++ [(n, v)]) o1 rs D N P O M (st.set P (.dct (putD (p1.map fun r => ((.inr r.1 : L2.Key), IV.int r.2)) (.inr n) (.int v)))) := by
  have lP : P < st.length := (List.getElem?_eq_some_iff.mp h.p).1
  have := q.dn
  have := q.np
  have := q.po
  have := q.om
  refine ⟨h.nD, h.nN, h.nP, h.nO, h.nM, ?_, ?_, ?_, ?_, ?_, fun r hr => ⟨(h.ls r hr).1, ?_⟩⟩
  · rw [List.getElem?_set_ne (by omega)]; exact h.d
  · rw [List.getElem?_set_ne (by omega)]; exact h.n
  · rw [List.getElem?_set_self lP, putD_new, List.map_append]
    · rfl
    · rw [List.map_map]
      intro q
      obtain ⟨r, hr, e⟩ := List.mem_map.mp q
      injection e with e
      exact hn (List.mem_map.mpr ⟨r, hr, e⟩)
  · rw [List.getElem?_set_ne (by omega)]; exact h.o
  · rw [List.getElem?_set_ne (by omega)]; exact h.m
  · rw [List.getElem?_set_ne (Ne.symm (ne_ld (h.ls r hr).2 h.p))]; exact (h.ls r hr).2
theorem Pl.setO (h : Pl a sz fs ns p1 o1 rs D N P O M st) (q : Ord a D N P O M) {n : Str} {v : List Int} (hn : n ∉ o1.map (·.1)) : Pl a sz fs ns p1 (o1 ++ [(n, v)]) rs D N P O M (st.set O (.dct (putD (o1.map fun r => ((.inr r.1 : L2.Key), IV.tup (r.2.map .int))) (.inr n) (.tup (v.map .int))))) := by
  have lO : O < st.length := (List.getElem?_eq_some_iff.mp h.o).1
  have := q.dn
  have := q.np
  have := q.po
  have := q.om
  refine ⟨h.nD, h.nN, h.nP, h.nO, h.nM, ?_, ?_, ?_, ?_, ?_, fun r hr => ⟨(h.ls r hr).1, ?_⟩⟩
  · rw [List.getElem?_set_ne (by omega)]; exact h.d
  · rw [List.getElem?_set_ne (by omega)]; exact h.n
  · rw [List.getElem?_set_ne (by omega)]; exact h.p
  · rw [List.getElem?_set_self lO, putD_new, List.map_append]
    · rfl
    · rw [List.map_map]
      intro q
      obtain ⟨r, hr, e⟩ := List.mem_map.mp q
      injection e with e
      exact hn (List.mem_map.mpr ⟨r, hr, e⟩)
  · rw [List.getElem?_set_ne (by omega)]; exact h.m
  · rw [List.getElem?_set_ne (Ne.symm (ne_ld (h.ls r hr).2 h.o))]; exact (h.ls r hr).2
theorem Pl.setM (h : Pl a sz fs ns p1 o1 rs D N P O M st) (q : Ord a D N P O M) {r : Pd × Nat} (hn : r.1.nm ∉ rs.map (·.1.nm)) (hr : r.2 ≠ a) (hl : st[r.2]? = some (.lst r.1.ms)) : Pl a sz fs ns p1 o1 (rs ++ [r]) D N P O M (st.set M (.dct (putD (rs.map fun r => ((.inr r.1.nm : L2.Key), IV.ref r.2)) (.inr r.1.nm) (.ref r.2)))) := by
  have lM : M < st.length := (List.getElem?_eq_some_iff.mp h.m).1
  have := q.dn
  have := q.np
  have := q.po
  have := q.om
  refine ⟨h.nD, h.nN, h.nP, h.nO, h.nM, ?_, ?_, ?_, ?_, ?_, fun r' hr' => ?_⟩
  · rw [List.getElem?_set_ne (by omega)]; exact h.d
  · rw [List.getElem?_set_ne (by omega)]; exact h.n
  · rw [List.getElem?_set_ne (by omega)]; exact h.p
  · rw [List.getElem?_set_ne (by omega)]; exact h.o
  · rw [List.getElem?_set_self lM, putD_new, List.map_append]
    · rfl
    · rw [List.map_map]
      intro q
      obtain ⟨r', hr', e⟩ := List.mem_map.mp q
      injection e with e
      exact hn (List.mem_map.mpr ⟨r', hr', e⟩)
  · rcases List.mem_append.mp hr' with q | q
    · exact ⟨(h.ls r' q).1, by rw [List.getElem?_set_ne (Ne.symm (ne_ld (h.ls r' q).2 h.m))]; exact (h.ls r' q).2⟩
    · rw [List.mem_singleton.mp q]
      exact ⟨hr, by rw [List.getElem?_set_ne (Ne.symm (ne_ld hl h.m))]; exact hl⟩
end
/-! the loops -/
def B1 : MS := (sSeq (sAsg (mBin oAdd (mC (.int 1)) (mCall f__law_take (maC (mVar 0) (maC (mC (.int 4)) maN)))) (gNm 5))
    (sSeq (sDpt (mDgt (mVar 3) (mC (.str "points"))) (mVar 4) (mVar 5))
    (sDpt (mDgt (mVar 3) (mC (.str "outs"))) (mVar 4) (mB bTuple (maC (mB bSorted (maC (mCall f__law_some (maC (mVar 0) (maC (mLsRg (mVar 5)) (maC (mCall f__law_one (maC (mVar 0) (maC (mLst (maC (mC (.int 1)) (maC (mC (.int 1)) (maC (mC (.int 2)) (maC (mC (.int 0)) maN))))) maN))) maN)))) maN)) maN)))))
def B2 : MS := (sDpt (mDgt (mVar 3) (mC (.str "moves"))) (mVar 4) (mLc (iRg1 (maC (mBin oAdd (mC (.int 1)) (mCall f__law_take (maC (mVar 0) (maC (mC (.int 6)) maN)))) maN)) (gNm 6) mtYes (mCall f__law_move (maC (mVar 0) (maC (mVar 3) (maC (mVar 4) maN)))) [6]))
/-- points and ends of a drawn procedure -/
def RowOk (p : Int) (os : List Int) : Prop := 1 ≤ p ∧ p ≤ 4 ∧ os.length ≤ 2 ∧ os.Pairwise (· < ·) ∧ ∀ o ∈ os, 0 ≤ o ∧ o < p
section
variable {a sz : Nat} {fs : List Int} {ns : List Str} {p1 : List (Str × Int)} {o1 : List (Str × List Int)} {rs : List (Pd × Nat)} {D N P O M : Nat} {st st0 : Hs}
theorem step1 {e1 e5 e6 e7 : Option IV} (gr : Gr a st0 st) (h : Pl a sz fs ns p1 o1 rs D N P O M st) (q : Ord a D N P O M) (lD : st0.length ≤ D) {n : Str} (hn : n ∉ p1.map (·.1)) (hn2 : n ∉ o1.map (·.1)) (l1 : p1.length ≤ 10) (l2 : o1.length ≤ 10) :
    ∃ p os e5' st', B1 [some (.ref a), e1, some (.int sz), some (.ref D), some (.str n), e5, e6, e7] st = .nx [some (.ref a), e1, some (.int sz), some (.ref D), some (.str n), e5', e6, e7] st' ∧ Gr a st0 st' ∧ Pl a sz fs ns (p1 ++ [(n, p)]) (o1 ++ [(n, os)]) rs D N P O M st' ∧ RowOk p os := by
  obtain ⟨k, st1, f1, k0, k1, g1, _⟩ := take_run gr.urn 4 (by decide) (by decide)
  obtain ⟨m, rfl⟩ := Int.eq_ofNat_of_zero_le k0
  have dn := q.dn
  have np := q.np
  have po := q.po
  have om := q.om
  obtain ⟨E, hE⟩ : ∃ E : Sm.Env, E = [some (.ref a), e1, some (.int sz), some (.ref D), some (.str n), some (.int ((1 + m : Nat) : Int)), e6, e7] := ⟨_, rfl⟩
  have E0 : E[0]? = some (some (.ref a)) := by rw [hE]; rfl
  have E3 : E[3]? = some (some (.ref D)) := by rw [hE]; rfl
  have E4 : E[4]? = some (some (.str n)) := by rw [hE]; rfl
  have E5 : E[5]? = some (some (.int ((1 + m : Nat) : Int))) := by rw [hE]; rfl
  have s1 : sAsg (mBin oAdd (mC (.int 1)) (mCall f__law_take (maC (mVar 0) (maC (mC (.int 4)) maN)))) (gNm 5) [some (.ref a), e1, some (.int sz), some (.ref D), some (.str n), e5, e6, e7] st = .nx E st1 := by
    rw [hE]
    refine asg_ok (bin_ok rfl (call_ok (c_ok (v_ok rfl) (c_ok rfl n_ok)) f1) (z := .int ((1 + m : Nat) : Int)) ?_) rfl
    show some (IV.int (1 + (m : Int)), st1) = _
    rw [Int.natCast_add]
    rfl
  have h1 := h.gr g1
  have ml : (p1.map fun r => ((.inr r.1 : L2.Key), IV.int r.2)).length < big := by
    rw [List.length_map]
    exact Nat.lt_of_le_of_lt l1 (by decide)
  have s2 := dpt_ok (mv := mVar 5) (mo := mDgt (mVar 3) (mC (.str "points"))) (mi := mVar 4) (env := E) (v_ok (st := st1) E5) (dg_ok (v_ok E3) rfl h1.d rfl v_points) (v_ok E4) rfl h1.p ml
  have h2 := h1.setP q (n := n) (v := ((1 + m : Nat) : Int)) hn
  have gr2 := (gr.trans g1).setb (b := P) (o := .dct (putD (p1.map fun r => ((.inr r.1 : L2.Key), IV.int r.2)) (.inr n) (.int ((1 + m : Nat) : Int)))) h.nP (by omega)
  obtain ⟨os, st3, l, f3, oa, ob, ql, ol, g3⟩ := outs_ok (k := 5) (n := 1 + m) (env := E) (LM := mCall f__law_one (maC (mVar 0) (maC (mLst (maC (mC (.int 1)) (maC (mC (.int 1)) (maC (mC (.int 2)) (maC (mC (.int 0)) maN))))) maN))) (Q := fun l => l ≤ 2) gr2.urn E0 E5 (by omega) (fun s u g => by
    obtain ⟨x, s', e, mx, g'⟩ := one_new [.int 1, .int 1, .int 2, .int 0] u (by simp) (by simp)
    have : ∃ l : Int, x = .int l ∧ 0 ≤ l ∧ l ≤ 2 := by
      simp at mx
      rcases mx with rfl | rfl | rfl
      · exact ⟨1, rfl, by decide, by decide⟩
      · exact ⟨2, rfl, by decide, by decide⟩
      · exact ⟨0, rfl, by decide, by decide⟩
    obtain ⟨l, rfl, l0, l2⟩ := this
    exact ⟨l, s', call_ok (c_ok (v_ok E0) (c_ok (ls_ok (c_ok rfl (c_ok rfl (c_ok rfl (c_ok rfl n_ok)))) bg4) n_ok)) e, l0, l2, g'⟩)
  have h3 := h2.gr g3
  have ml2 : (o1.map fun r => ((.inr r.1 : L2.Key), IV.tup (r.2.map .int))).length < big := by
    rw [List.length_map]
    exact Nat.lt_of_le_of_lt l2 (by decide)
  have s3 := dpt_ok (mo := mDgt (mVar 3) (mC (.str "outs"))) (mi := mVar 4) (env := E) f3 (dg_ok (v_ok E3) rfl h3.d rfl v_outs) (v_ok E4) rfl h3.o ml2
  refine ⟨((1 + m : Nat) : Int), os, some (.int ((1 + m : Nat) : Int)), _, ?_, (gr2.trans g3).setb h.nO (by omega), h3.setO q hn2, by omega, by omega, ?_, oa, ob⟩
  · rw [← hE]
    unfold B1
    exact (seq_nx s1).trans ((seq_nx s2).trans s3)
  · have ql : l ≤ 2 := ql
    by_cases c : ((1 + m : Nat) : Int) < l
    · rw [if_pos c] at ol; omega
    · rw [if_neg c] at ol; omega
theorem loop1 {e1 e6 e7 : Option IV} (q : Ord a D N P O M) (lD : st0.length ≤ D) (nd : ns.Nodup) (nl : ns.length ≤ 4) : ∀ (k i : Nat) (e4 e5 : Option IV) (p1 : List (Str × Int)) (o1 : List (Str × List Int)) (st : Hs), i + k = ns.length → Gr a st0 st → Pl a sz fs ns p1 o1 rs D N P O M st → p1.map (·.1) = ns.take i → o1.map (·.1) = ns.take i → (∀ x ∈ p1.zip o1, RowOk x.1.2 x.2.2) →
    ∃ e4' e5' p1' o1' st', goFor (.seq (.ref N) ns.length) (gNm 4) B1 k i [some (.ref a), e1, some (.int sz), some (.ref D), e4, e5, e6, e7] st = .nx [some (.ref a), e1, some (.int sz), some (.ref D), e4', e5', e6, e7] st' ∧ Gr a st0 st' ∧ Pl a sz fs ns p1' o1' rs D N P O M st' ∧ p1'.map (·.1) = ns ∧ o1'.map (·.1) = ns ∧ (∀ x ∈ p1'.zip o1', RowOk x.1.2 x.2.2)
  | 0, i, e4, e5, p1, o1, st, ek, gr, h, hp, ho, hr => by
    have ei : i = ns.length := by omega
    rw [ei, List.take_length] at hp ho
    exact ⟨e4, e5, p1, o1, st, for_end (by simp [Src.fin, seqOf, lstOf, h.n, ioL]), gr, h, hp, ho, hr⟩
  | k + 1, i, e4, e5, p1, o1, st, ek, gr, h, hp, ho, hr => by
    have hi : i < ns.length := by omega
    have lp : p1.length = i := by have := congrArg List.length hp; simp at this; omega
    have lo : o1.length = i := by have := congrArg List.length ho; simp at this; omega
    have et : ns.take (i + 1) = ns.take i ++ [ns[i]] := by rw [List.take_succ, List.getElem?_eq_getElem hi]; rfl
    have nin : ns[i] ∉ ns.take i := by
      intro c
      obtain ⟨j, hj, e⟩ := List.getElem_of_mem c
      rw [List.getElem_take] at e
      simp at hj
      exact (List.pairwise_iff_getElem.mp nd) j i (by omega) hi (by omega) e
    obtain ⟨p, os, e5', st1, s1, gr1, h1, ok1⟩ := step1 (e1 := e1) (e5 := e5) (e6 := e6) (e7 := e7) gr h q lD (n := ns[i]) (by rw [hp]; exact nin) (by rw [ho]; exact nin) (by omega) (by omega)
    obtain ⟨e4'', e5'', p2, o2, st2, s2, r⟩ := loop1 (e1 := e1) (e6 := e6) (e7 := e7) q lD nd nl k (i + 1) (some (.str ns[i])) e5' (p1 ++ [(ns[i], p)]) (o1 ++ [(ns[i], os)]) st1 (by omega) gr1 h1 (by rw [List.map_append, hp, et]; rfl) (by rw [List.map_append, ho, et]; rfl) (fun x hx => by
      rw [List.zip_append (by omega)] at hx
      rcases List.mem_append.mp hx with c | c
      · exact hr x c
      · rw [List.mem_singleton.mp (show x ∈ [((ns[i], p), (ns[i], os))] from c)]
        exact ok1)
    refine ⟨e4'', e5'', p2, o2, st2, ?_, r⟩
    exact (for_step (x := .str ns[i]) (by simp [Src.item, seqOf, lstOf, h.n, ioL, hi]) rfl s1).trans s2
/-- moves of a drawn procedure -/
def MsOk (sz : Nat) (ns : List Str) (p : Int) (ms : List IV) : Prop := 1 ≤ ms.length ∧ ms.length ≤ 6 ∧ (∀ m ∈ ms, Mv p sz m) ∧ ∀ m ∈ ms, CallIn ns m
theorem step2 {e1 e5 e6 e7 : Option IV} (gr : Gr a st0 st) (h : Pl a sz fs ns p1 o1 rs D N P O M st) (q : Ord a D N P O M) (lD : st0.length ≤ D) (z0 : 1 ≤ sz) (z1 : sz ≤ 5) (hl : ns.length ≤ 4) (hnm : ∀ n ∈ ns, Nm (.str n)) (nd : (p1.map (·.1)).Nodup) {r : Str × Int} (hr : r ∈ p1) (hrn : r.1 ∈ ns) (b0 : 1 ≤ r.2) (b1 : r.2 ≤ 6) (hn : r.1 ∉ rs.map (·.1.nm)) (l1 : rs.length ≤ 10) (os : List Int) :
    ∃ ms L st', B2 [some (.ref a), e1, some (.int sz), some (.ref D), some (.str r.1), e5, e6, e7] st = .nx [some (.ref a), e1, some (.int sz), some (.ref D), some (.str r.1), e5, e6, e7] st' ∧ Gr a st0 st' ∧ Pl a sz fs ns p1 o1 (rs ++ [(⟨r.1, r.2, ms, os⟩, L)]) D N P O M st' ∧ MsOk sz ns r.2 ms := by
  have dn := q.dn
  have np := q.np
  have po := q.po
  have om := q.om
  have n0 : ns ≠ [] := fun e => by rw [e] at hrn; cases hrn
  obtain ⟨k, st1, f1, k0, k1, g1, _⟩ := take_run gr.urn 6 (by decide) (by decide)
  obtain ⟨m, rfl⟩ := Int.eq_ofNat_of_zero_le k0
  obtain ⟨E, hE⟩ : ∃ E : Sm.Env, E = [some (.ref a), e1, some (.int sz), some (.ref D), some (.str r.1), e5, e6, e7] := ⟨_, rfl⟩
  have E0 : E[0]? = some (some (.ref a)) := by rw [hE]; rfl
  have E3 : E[3]? = some (some (.ref D)) := by rw [hE]; rfl
  have E4 : E[4]? = some (some (.str r.1)) := by rw [hE]; rfl
  obtain ⟨ms, st2, f2, l2, p2, g2, h2⟩ := goLc_all (s := .rng 0 (1 + m)) (g := gNm 6) (m := mCall f__law_move (maC (mVar 0) (maC (mVar 3) (maC (mVar 4) maN)))) (env := E.set 6 none) (Pr := fun x => Mv r.2 sz x ∧ CallIn ns x) (Rl := fun s s' => Gr a s s' ∧ Pl a sz fs ns p1 o1 rs D N P O M s') (fun _ _ g => ⟨Gr.refl g.1.urn, g.2⟩) (fun _ _ _ x y => ⟨x.1.trans y.1, y.2⟩) (fun _ _ => rfl) (fun t s ht g => by
    have ht : t < 1 + m := ht
    obtain ⟨x, s', e, x1, x2, g'⟩ := move_run g.1.urn g.2 z0 z1 n0 (by omega) hnm nd hr b0 b1
    refine ⟨.int (0 + t), _, x, s', by simp [Src.item, ht], rfl, ?_, ⟨x1, x2⟩, g', g.2.gr g'⟩
    refine call_ok (c_ok (v_ok ?_) (c_ok (v_ok ?_) (c_ok (v_ok ?_) n_ok))) e
    · rw [hE]; rfl
    · rw [hE]; rfl
    · rw [hE]; rfl) (1 + m) 0 [] st1 (Nat.zero_add _) (Nat.le_trans (show 1 + m ≤ 6 by omega) (by decide)) rfl ⟨Gr.refl g1.urn, h.gr g1⟩ (by simp)
  have l2 : ms.length = 1 + m := l2
  have ei : iRg1 (maC (mBin oAdd (mC (.int 1)) (mCall f__law_take (maC (mVar 0) (maC (mC (.int 6)) maN)))) maN) E st = .ok (.rng 0 (1 + m)) st1 := by
    refine rg1_nat (c_ok (bin_ok rfl (call_ok (c_ok (v_ok E0) (c_ok rfl n_ok)) f1) ?_) n_ok) (by omega)
    show some (IV.int (1 + (m : Int)), st1) = _
    rw [Int.natCast_add]
    rfl
  have f3 := lc_ok (vs := [6]) ei f2
  have ap : Gr a st2 (st2 ++ [.lst ms]) := Gr.app g2.urn
  have h3 := h2.gr ap
  have hL : (st2 ++ [IO.lst ms])[st2.length]? = some (.lst ms) := by simp
  have ml : (rs.map fun r => ((.inr r.1.nm : L2.Key), IV.ref r.2)).length < big := by
    rw [List.length_map]
    exact Nat.lt_of_le_of_lt l1 (by decide)
  have s3 := dpt_ok (mo := mDgt (mVar 3) (mC (.str "moves"))) (mi := mVar 4) (env := E) f3 (dg_ok (v_ok E3) rfl h3.d rfl v_moves) (v_ok E4) rfl h3.m ml
  have gr2 := (gr.trans g1).trans (g2.trans ap)
  have la : st2.length ≠ a := by have := g2.urn.lt; omega
  refine ⟨ms, st2.length, _, ?_, gr2.setb h.nM (by omega), h3.setM q (r := (⟨r.1, r.2, ms, os⟩, st2.length)) hn la hL, by omega, by omega, fun x hx => (p2 x hx).1, fun x hx => (p2 x hx).2⟩
  rw [← hE]
  exact s3
theorem loop2 {e1 e5 e6 e7 : Option IV} (q : Ord a D N P O M) (lD : st0.length ≤ D) (z0 : 1 ≤ sz) (z1 : sz ≤ 5) (nd : ns.Nodup) (nl : ns.length ≤ 4) (hnm : ∀ n ∈ ns, Nm (.str n)) (hp : p1.map (·.1) = ns) (ho : o1.map (·.1) = ns) (hr : ∀ x ∈ p1.zip o1, RowOk x.1.2 x.2.2) : ∀ (k i : Nat) (e4 : Option IV) (rs : List (Pd × Nat)) (st : Hs), i + k = ns.length → Gr a st0 st → Pl a sz fs ns p1 o1 rs D N P O M st → rs.map (fun r => ((r.1.nm, r.1.p), (r.1.nm, r.1.os))) = (p1.zip o1).take i → (∀ r ∈ rs, MsOk sz ns r.1.p r.1.ms) →
    ∃ e4' rs' st', goFor (.seq (.ref N) ns.length) (gNm 4) B2 k i [some (.ref a), e1, some (.int sz), some (.ref D), e4, e5, e6, e7] st = .nx [some (.ref a), e1, some (.int sz), some (.ref D), e4', e5, e6, e7] st' ∧ Gr a st0 st' ∧ Pl a sz fs ns p1 o1 rs' D N P O M st' ∧ rs'.map (fun r => ((r.1.nm, r.1.p), (r.1.nm, r.1.os))) = p1.zip o1 ∧ (∀ r ∈ rs', MsOk sz ns r.1.p r.1.ms)
  | 0, i, e4, rs, st, ek, gr, h, hrs, hm => by
    have lp : p1.length = ns.length := by have := congrArg List.length hp; simpa using this
    have lo : o1.length = ns.length := by have := congrArg List.length ho; simpa using this
    have ei : i = (p1.zip o1).length := by rw [List.length_zip]; omega
    rw [ei, List.take_length] at hrs
    exact ⟨e4, rs, st, for_end (by simp [Src.fin, seqOf, lstOf, h.n, ioL]), gr, h, hrs, hm⟩
  | k + 1, i, e4, rs, st, ek, gr, h, hrs, hm => by
    have lp : p1.length = ns.length := by have := congrArg List.length hp; simpa using this
    have lo : o1.length = ns.length := by have := congrArg List.length ho; simpa using this
    have hi : i < ns.length := by omega
    have hip : i < p1.length := by omega
    have hio : i < o1.length := by omega
    have hz : i < (p1.zip o1).length := by rw [List.length_zip]; omega
    have en : (p1[i]).1 = ns[i] := by
      have : (p1.map (·.1))[i]? = ns[i]? := by rw [hp]
      rw [List.getElem?_map, List.getElem?_eq_getElem hip, List.getElem?_eq_getElem hi] at this
      injection this
    have eo : (o1[i]).1 = ns[i] := by
      have : (o1.map (·.1))[i]? = ns[i]? := by rw [ho]
      rw [List.getElem?_map, List.getElem?_eq_getElem hio, List.getElem?_eq_getElem hi] at this
      injection this
    have ez : (p1.zip o1)[i] = (p1[i], o1[i]) := List.getElem_zip
    have rk := hr _ (List.getElem_mem hz)
    rw [ez] at rk
    have et : (p1.zip o1).take (i + 1) = (p1.zip o1).take i ++ [(p1[i], o1[i])] := by rw [List.take_succ, List.getElem?_eq_getElem hz, ez]; rfl
    have lr : rs.length = i := by
      have := congrArg List.length hrs
      rw [List.length_map, List.length_take] at this
      omega
    have nin : (p1[i]).1 ∉ rs.map (·.1.nm) := by
      have e : rs.map (·.1.nm) = ns.take i := by
        have : rs.map (·.1.nm) = (rs.map (fun r => ((r.1.nm, r.1.p), (r.1.nm, r.1.os)))).map (fun x => x.1.1) := by rw [List.map_map]; rfl
        rw [this, hrs, List.map_take, ← hp]
        congr 1
        rw [show (fun x : (Str × Int) × (Str × List Int) => x.1.1) = (fun x => x.1) ∘ Prod.fst from rfl, ← List.map_map, List.map_fst_zip (by omega)]
      rw [e, en]
      intro c
      obtain ⟨j, hj, e⟩ := List.getElem_of_mem c
      rw [List.getElem_take] at e
      simp at hj
      exact (List.pairwise_iff_getElem.mp nd) j i (by omega) hi (by omega) e
    obtain ⟨ms, L, st1, s1, gr1, h1, ok1⟩ := step2 (e1 := e1) (e5 := e5) (e6 := e6) (e7 := e7) gr h q lD z0 z1 nl hnm (by rw [hp]; exact nd) (r := p1[i]) (List.getElem_mem hip) (by rw [en]; exact List.getElem_mem hi) rk.1 (Int.le_trans rk.2.1 (by decide)) nin (by omega) (o1[i]).2
    obtain ⟨e4'', rs2, st2, s2, r⟩ := loop2 (e1 := e1) (e5 := e5) (e6 := e6) (e7 := e7) q lD z0 z1 nd nl hnm hp ho hr k (i + 1) (some (.str (p1[i]).1)) _ st1 (by omega) gr1 h1 (by
      rw [List.map_append, hrs, et]
      congr 1
      show [(((p1[i]).1, (p1[i]).2), ((p1[i]).1, (o1[i]).2))] = _
      rw [en, ← eo]
      rw [eo, ← en]
      have : (p1[i]).1 = (o1[i]).1 := by rw [en, eo]
      show [(p1[i], ((p1[i]).1, (o1[i]).2))] = _
      rw [this]) (fun r hr' => by
      rcases List.mem_append.mp hr' with c | c
      · exact hm r c
      · rw [List.mem_singleton.mp c]
        exact ok1)
    refine ⟨e4'', rs2, st2, ?_, r⟩
    exact (for_step (x := .str (p1[i]).1) (by rw [en]; simp [Src.item, seqOf, lstOf, h.n, ioL, hi]) rfl s1).trans s2
end
end K04

set_option Elab.async false
set_option linter.all false
set_option maxRecDepth 100000
set_option maxHeartbeats 4000000
namespace K04
open Sm L2 PySem PySem.Spec
/-! ### the drawn plain program, whole -/
theorem strs_of {ys rest : List IV} {R : List Str} (h : (ys ++ rest).Perm (R.map .str)) : ∃ zs : List Str, ys = zs.map .str ∧ (R.Nodup → zs.Nodup) ∧ ∀ z ∈ zs, z ∈ R := by
  have hall : ∀ y ∈ ys, ∃ i, y = .str i ∧ i ∈ R := fun y hy => by
    obtain ⟨i, hi, e⟩ := List.mem_map.mp (h.mem_iff.mp (List.mem_append_left _ hy))
    exact ⟨i, e.symm, hi⟩
  obtain ⟨toS, hS⟩ : ∃ toS : IV → Str, ∀ z, toS (.str z) = z := ⟨fun v => match v with
    | .str z => z
    | _ => Str.empty, fun _ => rfl⟩
  have e : ys = (ys.map toS).map .str := by
    rw [List.map_map]
    conv => lhs; rw [← List.map_id ys]
    refine List.map_congr_left fun y hy => ?_
    obtain ⟨i, rfl, _⟩ := hall y hy
    show IV.str i = IV.str (toS (.str i))
    rw [hS]
  refine ⟨ys.map toS, e, fun nd => ?_, fun i hi => ?_⟩
  · have n1 : (R.map IV.str).Nodup := List.Pairwise.map _ (fun a b (hab : a ≠ b) => fun e => by cases e; exact hab rfl) nd
    have n2 := (List.nodup_append.mp (h.nodup_iff.mpr n1)).1
    rw [e] at n2
    exact List.Pairwise.of_map _ (fun a b hab => fun e => hab (by rw [e])) n2
  · obtain ⟨y, hy, rfl⟩ := List.mem_map.mp hi
    obtain ⟨i, rfl, hm⟩ := hall y hy
    rw [hS]
    exact hm
theorem goDs_cons {mk mv : ME} {es : List (ME × ME)} {env : Sm.Env} {st st1 st2 st3 : Hs} {y z : IV} {k : L2.Key} {kvs : List (L2.Key × IV)} (h1 : mk env st = .ok y st1) (h2 : mv env st1 = .ok z st2) (hk : Sm.keyOf y = some k) (h3 : goDs es env st2 = .ok kvs st3) : goDs ((mk, mv) :: es) env st = .ok ((k, z) :: kvs) st3 := by
  unfold goDs bnd
  rw [h1]
  dsimp only
  rw [h2]
  dsimp only
  rw [h3]
  dsimp only
  rw [hk]
theorem dsp_ok {es : List (ME × ME)} {env : Sm.Env} {st st' : Hs} {kvs : List (L2.Key × IV)} (h : goDs es env (st ++ [.dct []]) = .ok kvs st') (hD : st'[st.length]? = some (.dct [])) (hl : kvs.length ≤ 15) : mDsp es env st = .ok (.ref st.length) (st'.set st.length (.dct (mergeD [] kvs))) := by
  unfold mDsp
  rw [h]
  dsimp only
  rw [hD]
  dsimp only
  rw [if_pos hl]
theorem addL_ok {m1 m2 : ME} {env : Sm.Env} {st st1 st2 : Hs} {i j : Nat} {xs ys : List IV} (h1 : m1 env st = .ok (.ref i) st1) (h2 : m2 env st1 = .ok (.ref j) st2) (hi : st2[i]? = some (.lst xs)) (hj : st2[j]? = some (.lst ys)) (hl : xs.length + ys.length ≤ big) : mBin oAdd m1 m2 env st = .ok (.ref st2.length) (st2 ++ [.lst (xs ++ ys)]) := by
  refine bin_ok h1 h2 ?_
  simp only [oAdd, hi, hj, ioL, if_pos hl]
theorem lc_cons {s : Src} {g : MG} {m : ME} {env env' : Sm.Env} {k i : Nat} {acc : List IV} {st st' : Hs} {x y : IV} (h1 : s.item i st = some x) (h2 : g x env st = .ok env' st) (h3 : m env' st = .ok y st') (hl : acc.length < big) : goLc s g mtYes m env (k + 1) i acc st = goLc s g mtYes m env k (i + 1) (acc ++ [y]) st' := by
  conv => lhs; unfold goLc
  simp only [h1, h2, mtYes, Sm.ret, h3, if_pos hl]
theorem lc_end {s : Src} {g : MG} {c : MT} {m : ME} {env : Sm.Env} {i : Nat} {acc : List IV} {st : Hs} (h : s.fin st = true) : goLc s g c m env 0 i acc st = .ok acc st := by
  unfold goLc
  rw [if_pos h]
theorem main_nm : Nm (.str "main") := nm_of (by decide +kernel)
def PQA : List Str := ["p", "q", "ab"]
theorem pqa_nm : ∀ s ∈ PQA, nmB s = true := by decide +kernel
theorem pqa_nd : (("main" : Str) :: PQA).Nodup := by decide +kernel
structure Dr (g : Pg) : Prop where
  ok : PgOk g
  z4 : g.sz ≤ 4
  zs : ∃ zs, g.names = ("main" : Str) :: zs ∧ ∀ z ∈ zs, z ∈ PQA
  ms : ∀ q ∈ g.ps, q.ms.length ≤ 6
def PlAt (a : Nat) (st : Hs) (D : Nat) (g : Pg) : Prop := ∃ N P O M rs, Pl a g.sz g.fs g.names (g.ps.map fun q => (q.nm, q.p)) (g.ps.map fun q => (q.nm, q.os)) rs D N P O M st ∧ rs.map (·.1) = g.ps
theorem PlAt.gr {a : Nat} {st st' : Hs} {D : Nat} {g : Pg} (h : PlAt a st D g) (r : Gr a st st') : PlAt a st' D g := by
  obtain ⟨N, P, O, M, rs, h1, h2⟩ := h
  exact ⟨N, P, O, M, rs, h1.gr r, h2⟩
section
variable {a : Nat} {st : Hs} {lots : Int}
theorem p0_ok (h : Urn st a) : ∃ (sz : Nat) (st1 : Hs), b__law_plain_0 [some (.ref a), some (.int lots), none, none, none, none, none, none] st = .nx [some (.ref a), some (.int lots), some (.int sz), none, none, none, none, none] st1 ∧ 1 ≤ sz ∧ sz ≤ 4 ∧ Gr a st st1 := by
  obtain ⟨x, st1, e, mx, g⟩ := one_new [.int 2, .int 3, .int 2, .int 1, .int 3, .int 4] h (by simp) (by simp)
  have : ∃ sz : Nat, x = .int sz ∧ 1 ≤ sz ∧ sz ≤ 4 := by
    simp at mx
    rcases mx with rfl | rfl | rfl | rfl | rfl | rfl
    · exact ⟨2, rfl, by decide, by decide⟩
    · exact ⟨3, rfl, by decide, by decide⟩
    · exact ⟨2, rfl, by decide, by decide⟩
    · exact ⟨1, rfl, by decide, by decide⟩
    · exact ⟨3, rfl, by decide, by decide⟩
    · exact ⟨4, rfl, by decide, by decide⟩
  obtain ⟨sz, rfl, h0, h1⟩ := this
  exact ⟨sz, st1, asg_ok (call_ok (c_ok (v_ok rfl) (c_ok (ls_ok (c_ok rfl (c_ok rfl (c_ok rfl (c_ok rfl (c_ok rfl (c_ok rfl n_ok)))))) bg6) n_ok)) e) rfl, h0, h1, g⟩
theorem p1_ok (h : Urn st a) (l0 : 1 ≤ lots) (l1 : lots ≤ 1000) (sz : Nat) : ∃ (N : Nat) (zs : List Str) (st' : Hs), b__law_plain_1 [some (.ref a), some (.int lots), some (.int sz), none, none, none, none, none] st = .nx [some (.ref a), some (.int lots), some (.int sz), some (.ref st.length), none, none, none, none] st' ∧
    st'[st.length]? = some (.dct [(.inr "size", .int sz), (.inr "names", .ref N)]) ∧ st'[N]? = some (.lst ((("main" : Str) :: zs).map .str)) ∧ st.length < N ∧ N < st'.length ∧ zs.Nodup ∧ (∀ z ∈ zs, z ∈ PQA) ∧ zs.length ≤ 3 ∧ Gr a st st' := by
  have la := h.lt
  obtain ⟨E, hE⟩ : ∃ E : Sm.Env, E = [some (.ref a), some (.int lots), some (.int sz), none, none, none, none, none] := ⟨_, rfl⟩
  have E0 : E[0]? = some (some (.ref a)) := by rw [hE]; rfl
  have E1 : E[1]? = some (some (.int lots)) := by rw [hE]; rfl
  have E2 : E[2]? = some (some (.int sz)) := by rw [hE]; rfl
  obtain ⟨S0, hS0⟩ : ∃ S0 : Hs, S0 = st ++ [.dct []] := ⟨_, rfl⟩
  have g0 : Gr a st S0 := by rw [hS0]; exact Gr.app h
  have d0 : S0[st.length]? = some (.dct []) := by rw [hS0]; simp
  have n0 : S0.length = st.length + 1 := by rw [hS0]; simp
  obtain ⟨S1, hS1⟩ : ∃ S1 : Hs, S1 = S0 ++ [.lst [.str "main"]] := ⟨_, rfl⟩
  have g1 : Gr a S0 S1 := by rw [hS1]; exact Gr.app g0.urn
  have m1 : S1[S0.length]? = some (.lst [.str "main"]) := by rw [hS1]; simp
  have n1 : S1.length = S0.length + 1 := by rw [hS1]; simp
  obtain ⟨S2, hS2⟩ : ∃ S2 : Hs, S2 = S1 ++ [.lst (PQA.map .str)] := ⟨_, rfl⟩
  have g2 : Gr a S1 S2 := by rw [hS2]; exact Gr.app g1.urn
  have p2 : S2[S1.length]? = some (.lst (PQA.map .str)) := by rw [hS2]; simp
  have n2 : S2.length = S1.length + 1 := by rw [hS2]; simp
  obtain ⟨k, S3, e3, k0, k1, g3, _⟩ := take_run g2.urn lots (by omega) (by omega)
  obtain ⟨F, ys, rest, S4, e4, b4, pm, yl, nF, lF, g4⟩ := some_run (lots := k) g3.urn (Gr.at g3 p2 (by omega)) (by omega) (by decide) k0
  obtain ⟨zs, ey, nd, mz⟩ := strs_of pm
  subst ey
  have gm : Gr a S1 S4 := (g2.trans g3).trans g4
  have m4 : S4[S0.length]? = some (.lst [.str "main"]) := Gr.at gm m1 (by omega)
  have zl : zs.length ≤ 3 := by
    have := pm.length_eq
    simp [PQA] at this
    omega
  have s1 : mBin oAdd (mLst (maC (mC (.str "main")) maN)) (mCall f__law_some (maC (mVar 0) (maC (mLst (maC (mC (.str "p")) (maC (mC (.str "q")) (maC (mC (.str "ab")) maN)))) (maC (mCall f__law_take (maC (mVar 0) (maC (mVar 1) maN))) maN)))) E S0 = .ok (.ref S4.length) (S4 ++ [.lst ([.str "main"] ++ zs.map .str)]) := by
    refine addL_ok (st1 := S1) (by rw [hS1]; exact ls_ok (c_ok rfl n_ok) bg1) (call_ok (c_ok (v_ok E0) (c_ok (st1 := S2) (by rw [hS2]; exact ls_ok (c_ok rfl (c_ok rfl (c_ok rfl n_ok))) bg3) (c_ok (call_ok (c_ok (v_ok E0) (c_ok (v_ok E1) n_ok)) e3) n_ok))) e4) m4 b4 (Nat.le_trans (show _ ≤ 4 by simp; omega) (by decide))
  have g5 : Gr a S0 (S4 ++ [.lst ([.str "main"] ++ zs.map .str)]) := (g1.trans gm).trans (Gr.app g4.urn)
  have d5 := Gr.at g5 d0 (by omega)
  have L5 : (S4 ++ [IO.lst ([.str "main"] ++ zs.map .str)]).length = S4.length + 1 := by simp
  have n5 : (S4 ++ [IO.lst ([.str "main"] ++ zs.map .str)])[S4.length]? = some (.lst ((("main" : Str) :: zs).map .str)) := by simp
  have le4 := gm.le
  generalize (S4 ++ [IO.lst ([.str "main"] ++ zs.map .str)]) = S5 at s1 g5 d5 n5 L5
  have s2 := dsp_ok (st := st) (env := E) (es := [((mC (.str "size")), (mVar 2)), ((mC (.str "names")), (mBin oAdd (mLst (maC (mC (.str "main")) maN)) (mCall f__law_some (maC (mVar 0) (maC (mLst (maC (mC (.str "p")) (maC (mC (.str "q")) (maC (mC (.str "ab")) maN)))) (maC (mCall f__law_take (maC (mVar 0) (maC (mVar 1) maN))) maN))))))]) (st' := S5)
    (by rw [← hS0]; exact goDs_cons rfl (v_ok E2) rfl (goDs_cons rfl s1 rfl rfl)) d5 (by exact (show 2 ≤ 15 by decide))
  have em : mergeD [] [((.inr "size" : L2.Key), IV.int sz), (.inr "names", .ref S4.length)] = [(.inr "size", .int sz), (.inr "names", .ref S4.length)] := by kernel_rfl
  rw [em] at s2
  refine ⟨S4.length, zs, _, ?_, List.getElem?_set_self (by omega), ?_, by omega, by rw [List.length_set]; omega, nd (List.nodup_cons.mp pqa_nd).2, mz, zl, (g0.trans g5).setb (by omega) (Nat.le_refl _)⟩
  · rw [← hE]
    refine (asg_ok s2 rfl).trans ?_
    rw [hE]
    rfl
  · rw [List.getElem?_set_ne (by omega)]
    exact n5
theorem p2_ok {D N : Nat} {sz : Nat} (h : Urn st a) (z0 : 1 ≤ sz) (z1 : sz ≤ 4) (hD : st[D]? = some (.dct [(.inr "size", .int sz), (.inr "names", .ref N)])) (nD : D ≠ a) : ∃ (fs : List Int) (s s' : Hs), b__law_plain_2 [some (.ref a), some (.int lots), some (.int sz), some (.ref D), none, none, none, none] st = .nx [some (.ref a), some (.int lots), some (.int sz), some (.ref D), none, none, none, none] s' ∧
    s' = s.set D (.dct [(.inr "size", .int sz), (.inr "names", .ref N), (.inr "firsts", .tup (fs.map .int))]) ∧ Gr a st s ∧ fs ≠ [] ∧ fs.length ≤ 4 ∧ fs.Pairwise (· < ·) ∧ ∀ o ∈ fs, 0 ≤ o ∧ o < sz := by
  obtain ⟨E, hE⟩ : ∃ E : Sm.Env, E = [some (.ref a), some (.int lots), some (.int sz), some (.ref D), none, none, none, none] := ⟨_, rfl⟩
  have E0 : E[0]? = some (some (.ref a)) := by rw [hE]; rfl
  have E2 : E[2]? = some (some (.int sz)) := by rw [hE]; rfl
  have E3 : E[3]? = some (some (.ref D)) := by rw [hE]; rfl
  obtain ⟨fs, s, l, f3, oa, ob, ql, ol, g3⟩ := outs_ok (k := 2) (n := sz) (env := E) (LM := mBin oAdd (mC (.int 1)) (mCall f__law_take (maC (mVar 0) (maC (mVar 2) maN)))) (Q := fun l => 1 ≤ l) h E0 E2 (by omega) (fun s u g => by
    obtain ⟨k, s', e, k0, k1, g', _⟩ := take_run u (sz : Int) (by omega) (by omega)
    exact ⟨1 + k, s', bin_ok rfl (call_ok (c_ok (v_ok E0) (c_ok (v_ok E2) n_ok)) e) rfl, by omega, by omega, g'⟩)
  have s3 := dpt_ok (mo := mVar 3) (mi := mC (.str "firsts")) (env := E) f3 (v_ok E3) rfl rfl (Gr.at g3 hD nD) (show 2 < big by decide)
  have em : putD [((.inr "size" : L2.Key), IV.int sz), (.inr "names", .ref N)] (.inr "firsts") (.tup (fs.map .int)) = [(.inr "size", .int sz), (.inr "names", .ref N), (.inr "firsts", .tup (fs.map .int))] := by kernel_rfl
  have ql : 1 ≤ l := ql
  have l1 : 1 ≤ fs.length ∧ fs.length ≤ sz := by
    by_cases c : (sz : Int) < l
    · rw [if_pos c] at ol; omega
    · rw [if_neg c] at ol; omega
  refine ⟨fs, s, _, ?_, rfl, g3, fun e => by rw [e] at l1; simp at l1, by omega, oa, ob⟩
  rw [← em, ← hE]
  exact s3
theorem p3_ok {D N : Nat} {sz : Nat} {fs : List Int} (h : Urn st a) (hD : st[D]? = some (.dct [(.inr "size", .int sz), (.inr "names", .ref N), (.inr "firsts", .tup (fs.map .int))])) (nD : D ≠ a) : ∃ s' : Hs, b__law_plain_3 [some (.ref a), some (.int lots), some (.int sz), some (.ref D), none, none, none, none] st = .nx [some (.ref a), some (.int lots), some (.int sz), some (.ref D), none, none, none, none] s' ∧
    s'[D]? = some (.dct (pl6 sz fs N (st.length + 1) (st.length + 2) (st.length + 3))) ∧ s'[st.length + 1]? = some (.dct []) ∧ s'[st.length + 2]? = some (.dct []) ∧ s'[st.length + 3]? = some (.dct []) ∧ (∀ i, i ≠ D → i < st.length → s'[i]? = st[i]?) ∧ st.length ≤ s'.length ∧ (∀ st0, Gr a st0 st → st0.length ≤ D → Gr a st0 s') := by
  have lD : D < st.length := (List.getElem?_eq_some_iff.mp hD).1
  obtain ⟨E, hE⟩ : ∃ E : Sm.Env, E = [some (.ref a), some (.int lots), some (.int sz), some (.ref D), none, none, none, none] := ⟨_, rfl⟩
  have E3 : E[3]? = some (some (.ref D)) := by rw [hE]; rfl
  obtain ⟨L, hL⟩ : ∃ L : List IV, L = [.str "points", .str "outs", .str "moves"] := ⟨_, rfl⟩
  obtain ⟨S, hS⟩ : ∃ S : Hs, S = st ++ [.lst L] := ⟨_, rfl⟩
  have nS : S.length = st.length + 1 := by rw [hS]; simp
  have hsq : ∀ l : Hs, seqOf (S ++ l) (.ref st.length) = some L := fun l => by
    simp only [seqOf, lstOf, hS]
    rw [List.getElem?_append_left (by simp), List.getElem?_append_right (Nat.le_refl _), Nat.sub_self]
    rfl
  have it : ∀ (l : Hs) (i : Nat) (y : IV), L[i]? = some y → Src.item (.seq (.ref st.length) 3) i (S ++ l) = some y := fun l i y e => by
    simp only [Src.item, hsq l, Option.bind_some]
    rw [if_pos (by rw [hL]; rfl)]
    exact e
  have lc : goLc (.seq (.ref st.length) 3) (gNm 7) mtYes (mTup (maC (mVar 7) (maC mDct maN))) (E.set 7 none) 3 0 [] S = .ok [.tup [.str "points", .ref (st.length + 1)], .tup [.str "outs", .ref (st.length + 2)], .tup [.str "moves", .ref (st.length + 3)]] (((S ++ [.dct []]) ++ [.dct []]) ++ [.dct []]) := by
    have tp : ∀ (y : IV) (s : Hs), mTup (maC (mVar 7) (maC mDct maN)) ((E.set 7 none).set 7 (some y)) s = .ok (.tup [y, .ref s.length]) (s ++ [.dct []]) := fun y s => tp_ok (c_ok (v_ok (by rw [hE]; rfl)) (c_ok rfl n_ok)) bg2
    have i0 := it [] 0 (.str "points") (by rw [hL]; rfl)
    rw [List.append_nil] at i0
    have i1 := it [.dct []] 1 (.str "outs") (by rw [hL]; rfl)
    have i2 := it ([.dct []] ++ [.dct []]) 2 (.str "moves") (by rw [hL]; rfl)
    rw [← List.append_assoc] at i2
    have t0 := tp (.str "points") S
    have t1 := tp (.str "outs") (S ++ [.dct []])
    have t2 := tp (.str "moves") ((S ++ [.dct []]) ++ [.dct []])
    rw [nS] at t0
    rw [show (S ++ [IO.dct []]).length = st.length + 2 by simp; omega] at t1
    rw [show ((S ++ [IO.dct []]) ++ [IO.dct []]).length = st.length + 3 by simp; omega] at t2
    refine (lc_cons i0 rfl t0 (by exact (show 0 < big by decide))).trans ((lc_cons i1 rfl t1 (by exact (show 1 < big by decide))).trans ((lc_cons i2 rfl t2 (by exact (show 2 < big by decide))).trans (lc_end ?_)))
    have := hsq (([.dct []] ++ [.dct []]) ++ [.dct []])
    rw [← List.append_assoc, ← List.append_assoc] at this
    simp only [Src.fin, this]
    rw [hL]
    rfl
  obtain ⟨T, hT⟩ : ∃ T : Hs, T = ((S ++ [.dct []]) ++ [.dct []]) ++ [.dct []] := ⟨_, rfl⟩
  rw [← hT] at lc
  obtain ⟨kv, hkv⟩ : ∃ kv : List (L2.Key × IV), kv = [(.inr "points", .ref (st.length + 1)), (.inr "outs", .ref (st.length + 2)), (.inr "moves", .ref (st.length + 3))] := ⟨_, rfl⟩
  obtain ⟨L3, hL3⟩ : ∃ L3 : List IV, L3 = [.tup [.str "points", .ref (st.length + 1)], .tup [.str "outs", .ref (st.length + 2)], .tup [.str "moves", .ref (st.length + 3)]] := ⟨_, rfl⟩
  rw [← hL3] at lc
  have ei : iLs (mLst (maC (mC (.str "points")) (maC (mC (.str "outs")) (maC (mC (.str "moves")) maN)))) E st = .ok (.seq (.ref st.length) 3) S := by
    unfold iLs bnd
    rw [ls_ok (c_ok rfl (c_ok rfl (c_ok rfl n_ok))) bg3, ← hL, ← hS]
    dsimp only
    have := hsq []
    rw [List.append_nil] at this
    have : lstOf S (.ref st.length) = some L := this
    rw [this, hL]
    rfl
  have d1 : mB bDct (maC (mLc (iLs (mLst (maC (mC (.str "points")) (maC (mC (.str "outs")) (maC (mC (.str "moves")) maN))))) (gNm 7) mtYes (mTup (maC (mVar 7) (maC mDct maN))) [7]) maN) E st = .ok (.ref (T ++ [IO.lst L3]).length) ((T ++ [.lst L3]) ++ [.dct kv]) := by
    refine b_ok (c_ok (lc_ok (vs := [7]) ei lc) n_ok) ?_
    unfold bDct
    dsimp only
    have h1 : lstOf (T ++ [IO.lst L3]) (.ref T.length) = some L3 := by simp [lstOf, ioL]
    have h2 : prsOf L3 = some kv := by rw [hL3, hkv]; rfl
    have h3 : mergeD [] kv = kv := by rw [hkv]; kernel_rfl
    rw [h1, Option.bind_some, h2, Option.bind_some, h3]
  have aT : T = st ++ ([.lst L] ++ [.dct []] ++ [.dct []] ++ [.dct []]) := by rw [hT, hS]; simp
  obtain ⟨U, hU⟩ : ∃ U : Hs, U = (T ++ [.lst L3]) ++ [.dct kv] := ⟨_, rfl⟩
  have aU : U = st ++ ([.lst L] ++ [.dct []] ++ [.dct []] ++ [.dct []] ++ [.lst L3] ++ [.dct kv]) := by rw [hU, aT]; simp
  have nT : T.length = st.length + 4 := by rw [aT]; simp
  have nX : (T ++ [IO.lst L3]).length = st.length + 5 := by simp; omega
  rw [nX, ← hU] at d1
  have dU : U[D]? = st[D]? := by rw [aU, List.getElem?_append_left lD]
  have xU : U[st.length + 5]? = some (.dct kv) := by rw [hU, List.getElem?_append_right (by omega), nX]; simp
  have nU : U.length = st.length + 6 := by rw [aU]; simp
  have aft : ∀ i, U[st.length + i]? = ([IO.lst L] ++ [.dct []] ++ [.dct []] ++ [.dct []] ++ [.lst L3] ++ [.dct kv])[i]? := fun i => by rw [aU, List.getElem?_append_right (by omega), Nat.add_sub_cancel_left]
  refine ⟨U.set D (.dct (pl6 sz fs N (st.length + 1) (st.length + 2) (st.length + 3))), ?_, List.getElem?_set_self (by omega), ?_, ?_, ?_, fun i hi hl => ?_, by rw [List.length_set]; omega, fun st0 g0 l0 => ?_⟩
  · rw [← hE]
    have up : mUpd (mVar 3) (mB bDct (maC (mLc (iLs (mLst (maC (mC (.str "points")) (maC (mC (.str "outs")) (maC (mC (.str "moves")) maN))))) (gNm 7) mtYes (mTup (maC (mVar 7) (maC mDct maN))) [7]) maN)) E st = .ok .non (U.set D (.dct (pl6 sz fs N (st.length + 1) (st.length + 2) (st.length + 3)))) := by
      unfold mUpd bnd
      rw [v_ok E3]
      dsimp only
      rw [hD]
      dsimp only
      rw [d1]
      dsimp only
      unfold updK
      dsimp only
      rw [dU, hD, xU]
      dsimp only
      rw [if_pos ⟨by omega, by rw [hkv]; exact (show 6 ≤ big by decide)⟩, hkv]
      have : mergeD [((.inr "size" : L2.Key), IV.int sz), (.inr "names", .ref N), (.inr "firsts", .tup (fs.map .int))] [(.inr "points", .ref (st.length + 1)), (.inr "outs", .ref (st.length + 2)), (.inr "moves", .ref (st.length + 3))] = pl6 sz fs N (st.length + 1) (st.length + 2) (st.length + 3) := by kernel_rfl
      rw [this]
    unfold b__law_plain_3 sExp sE
    rw [up]
    rfl
  · rw [List.getElem?_set_ne (by omega), aft 1]; rfl
  · rw [List.getElem?_set_ne (by omega), aft 2]; rfl
  · rw [List.getElem?_set_ne (by omega), aft 3]; rfl
  · rw [List.getElem?_set_ne (Ne.symm hi), aU, List.getElem?_append_left hl]
  · have gu : Gr a st U := by rw [aU]; exact Gr.app h
    exact (g0.trans gu).setb nD l0
end
end K04

set_option Elab.async false
set_option linter.all false
set_option maxRecDepth 100000
set_option maxHeartbeats 4000000
namespace K04
open Sm L2 PySem PySem.Spec
/-! ### the drawn plain program, and what is made of it -/
section
variable {a : Nat} {st : Hs} {lots : Int}
theorem plain_run (h : Urn st a) (l0 : 1 ≤ lots) (l1 : lots ≤ 1000) : ∃ (D : Nat) (g : Pg) (st' : Hs), runC f__law_plain [.ref a, .int lots] st = .ok (.ref D) st' ∧ PlAt a st' D g ∧ Dr g ∧ D ≠ a ∧ Gr a st st' := by
  obtain ⟨sz, s1, e1, z0, z1, g1⟩ := p0_ok (lots := lots) h
  obtain ⟨N, zs, s2, e2, d2, n2, DN, lN, nd, mz, zl, g2⟩ := p1_ok g1.urn l0 l1 sz
  have la := h.lt
  have ll := g1.le
  have nD : s1.length ≠ a := by omega
  obtain ⟨fs, s, s3, e3, es3, g3, f0, fl, fa, fb⟩ := p2_ok (lots := lots) g2.urn z0 z1 d2 nD
  obtain ⟨ns, hns⟩ : ∃ ns : List Str, ns = ("main" : Str) :: zs := ⟨_, rfl⟩
  rw [← hns] at n2
  have gs : Gr a st s := (g1.trans g2).trans g3
  have g3' : Gr a st s3 := by rw [es3]; exact gs.setb nD ll
  have lsd : s1.length < s.length := by have := g3.le; omega
  have d3 : s3[s1.length]? = some (.dct [(.inr "size", .int sz), (.inr "names", .ref N), (.inr "firsts", .tup (fs.map .int))]) := by rw [es3]; exact List.getElem?_set_self lsd
  have n3 : s3[N]? = some (.lst (ns.map .str)) := by rw [es3, List.getElem?_set_ne (by omega)]; exact Gr.at g3 n2 (by omega)
  have len3 : N < s3.length := (List.getElem?_eq_some_iff.mp n3).1
  obtain ⟨s4, e4, d4, P4, O4, M4, keep, le4, g4⟩ := p3_ok (lots := lots) g3'.urn d3 nD
  have g4' := g4 st g3' ll
  have lst := g3'.le
  have q : Ord a s1.length N (s3.length + 1) (s3.length + 2) (s3.length + 3) := ⟨DN, by omega, by omega, by omega⟩
  have nsl : ns.length ≤ 4 := by rw [hns]; simp; omega
  have hnd : ns.Nodup := by
    rw [hns]
    refine List.nodup_cons.mpr ⟨fun c => ?_, nd⟩
    exact (List.nodup_cons.mp pqa_nd).1 (mz _ c)
  have hnm : ∀ n ∈ ns, Nm (.str n) := fun n hn => by
    rw [hns] at hn
    rcases List.mem_cons.mp hn with rfl | c
    · exact main_nm
    · exact nm_of (pqa_nm n (mz n c))
  have h0 : Pl a sz fs ns [] [] [] s1.length N (s3.length + 1) (s3.length + 2) (s3.length + 3) s4 := ⟨nD, by omega, by omega, by omega, by omega, d4, by rw [keep N (by omega) len3]; exact n3, P4, O4, M4, fun r hr => by cases hr⟩
  obtain ⟨E, hE⟩ : ∃ E : Option IV → Option IV → Sm.Env, E = fun e4 e5 => [some (.ref a), some (.int lots), some (.int sz), some (.ref s1.length), e4, e5, none, none] := ⟨_, rfl⟩
  obtain ⟨x4, x5, p1, o1, s5, e5, g5, h5, hp, ho, hr⟩ := loop1 (e1 := some (.int lots)) (e6 := none) (e7 := none) q ll hnd nsl ns.length 0 none none [] [] s4 (Nat.zero_add _) g4' h0 (by simp) (by simp) (fun x hx => by simp at hx)
  obtain ⟨x4', rs, s6, e6, g6, h6, hrs, hm⟩ := loop2 (e1 := some (.int lots)) (e5 := x5) (e6 := none) (e7 := none) q ll z0 (by omega) hnd nsl hnm hp ho hr ns.length 0 x4 [] s5 (Nat.zero_add _) g5 h5 (by simp) (fun r hr => by cases hr)
  have ei : ∀ (s : Hs) (y4 y5 : Option IV), Pl a sz fs ns p1 o1 [] s1.length N (s3.length + 1) (s3.length + 2) (s3.length + 3) s ∨ Pl a sz fs ns [] [] [] s1.length N (s3.length + 1) (s3.length + 2) (s3.length + 3) s → iLs (mDgt (mVar 3) (mC (.str "names"))) [some (.ref a), some (.int lots), some (.int sz), some (.ref s1.length), y4, y5, none, none] s = .ok (.seq (.ref N) ns.length) s := fun s y4 y5 hh => by
    have hd : s[s1.length]? = some (.dct (pl6 sz fs N (s3.length + 1) (s3.length + 2) (s3.length + 3))) ∧ s[N]? = some (.lst (ns.map .str)) := by
      rcases hh with hh | hh
      · exact ⟨hh.d, hh.n⟩
      · exact ⟨hh.d, hh.n⟩
    unfold iLs bnd
    rw [dg_ok (v_ok rfl) rfl hd.1 rfl v_names]
    simp only [lstOf, hd.2, ioL, List.length_map]
  have lp : p1.length = ns.length := by have := congrArg List.length hp; simpa using this
  have lo : o1.length = ns.length := by have := congrArg List.length ho; simpa using this
  obtain ⟨g, hg⟩ : ∃ g : Pg, g = ⟨sz, fs, rs.map (·.1)⟩ := ⟨_, rfl⟩
  have eps : g.ps.map (fun q => (q.nm, q.p)) = p1 := by
    have : (rs.map (fun r => ((r.1.nm, r.1.p), (r.1.nm, r.1.os)))).map Prod.fst = p1 := by rw [hrs, List.map_fst_zip (by omega)]
    rw [← this, hg, List.map_map, List.map_map]
    rfl
  have eos : g.ps.map (fun q => (q.nm, q.os)) = o1 := by
    have : (rs.map (fun r => ((r.1.nm, r.1.p), (r.1.nm, r.1.os)))).map Prod.snd = o1 := by rw [hrs, List.map_snd_zip (by omega)]
    rw [← this, hg, List.map_map, List.map_map]
    rfl
  have ens : g.names = ns := by
    rw [← hp, ← eps, List.map_map]
    rfl
  have gps : g.ps.length = ns.length := by rw [← ens]; simp [Pg.names]
  have gz : g.sz = sz := by rw [hg]
  have gf : g.fs = fs := by rw [hg]
  have row : ∀ x ∈ rs, RowOk x.1.p x.1.os := fun x hx => by
    have : ((x.1.nm, x.1.p), (x.1.nm, x.1.os)) ∈ p1.zip o1 := by rw [← hrs]; exact List.mem_map_of_mem hx
    exact hr _ this
  refine ⟨s1.length, g, s6, ?_, ⟨N, s3.length + 1, s3.length + 2, s3.length + 3, rs, by rw [eps, eos, ens, gz, gf]; exact h6, by rw [hg]⟩, ⟨⟨by rw [gz]; exact z0, by rw [gz]; omega, by rw [gf]; exact f0, by rw [gf]; omega, by rw [gf]; exact fa, by rw [gf, gz]; exact fb, fun e => ?_, by rw [gps]; exact nsl, by rw [ens]; exact hnd, fun q hq => ?_, fun q hq m hm' => ?_⟩, by rw [gz]; exact z1, ⟨zs, by rw [ens, hns], mz⟩, fun q hq => ?_⟩, nD, g6⟩
  · rw [runC_ref]
    show endR (b__law_plain [some (.ref a), some (.int lots), none, none, none, none, none, none] st) = _
    unfold b__law_plain
    rw [seq_nx e1, seq_nx e2, seq_nx e3, seq_nx e4]
    have f5 : b__law_plain_4 [some (.ref a), some (.int lots), some (.int sz), some (.ref s1.length), none, none, none, none] s4 = _ := (for_run (ei s4 none none (.inr h0))).trans e5
    have f6 : b__law_plain_5 [some (.ref a), some (.int lots), some (.int sz), some (.ref s1.length), x4, x5, none, none] s5 = _ := (for_run (ei s5 x4 x5 (.inl h5))).trans e6
    rw [seq_nx f5, seq_nx f6]
    rfl
  · have := gps
    rw [e] at this
    rw [hns] at this
    simp at this
  · rw [hg] at hq
    obtain ⟨x, hx, rfl⟩ := List.mem_map.mp hq
    have r1 := row x hx
    have r2 := hm x hx
    have nmx : x.1.nm ∈ ns := by
      rw [← ens, hg]
      exact List.mem_map.mpr ⟨x.1, List.mem_map_of_mem hx, rfl⟩
    rw [gz]
    exact ⟨hnm _ nmx, r1.1, by have := r1.2.1; omega, z0, by omega, by have := r2.2.1; omega, r2.2.2.1, by have := r1.2.2.1; omega, r1.2.2.2.1, r1.2.2.2.2⟩
  · rw [hg] at hq
    obtain ⟨x, hx, rfl⟩ := List.mem_map.mp hq
    rw [ens]
    exact (hm x hx).2.2.2 m hm'
  · rw [hg] at hq
    obtain ⟨x, hx, rfl⟩ := List.mem_map.mp hq
    exact (hm x hx).2.1
/-! what is made of it -/
theorem proc_run {D : Nat} {g : Pg} (hp : PlAt a st D g) (ok : PgOk g) {q : Pd} (hq : q ∈ g.ps) : runC f__law_procedure [.ref D, .str q.nm] st = .ok q.obj st := by
  obtain ⟨N, P, O, M, rs, h, hrs⟩ := hp
  obtain ⟨r, hr, er⟩ : ∃ r ∈ rs, r.1 = q := by
    rw [← hrs] at hq
    exact List.mem_map.mp hq
  have nd : (rs.map (·.1.nm)).Nodup := by
    have e : rs.map (·.1.nm) = g.names := by
      unfold Pg.names
      rw [← hrs, List.map_map]
      rfl
    rw [e]
    exact ok.nd
  have vm := valI_map (N := fun r : Pd × Nat => r.1.nm) (F := fun r => IV.ref r.2) nd r hr
  rw [er] at vm
  have vp := valI_map (N := Pd.nm) (F := fun q => IV.int q.p) ok.nd q hq
  have vo := valI_map (N := Pd.nm) (F := fun q => IV.tup (q.os.map .int)) ok.nd q hq
  have hP := h.p
  have hO := h.o
  rw [List.map_map] at hP hO
  have hl := (h.ls r hr).2
  rw [er] at hl
  rw [runC_ref]
  show endR (b__law_procedure [some (.ref D), some (.str q.nm), none] st) = _
  unfold b__law_procedure
  have e1 : mDgt (mDgt (mVar 0) (mC (.str "moves"))) (mVar 1) [some (.ref D), some (.str q.nm), none] st = .ok (.ref r.2) st := dg_ok (dg_ok (v_ok rfl) rfl h.d rfl v_moves) (v_ok rfl) h.m rfl vm
  rw [seq_nx (asg_ok (tup_ok e1 hl) rfl)]
  have e2 : mDgt (mDgt (mVar 0) (mC (.str "points"))) (mVar 1) [some (.ref D), some (.str q.nm), some (.tup q.ms)] st = .ok (.int q.p) st := dg_ok (dg_ok (v_ok rfl) rfl h.d rfl v_points) (v_ok rfl) hP rfl vp
  have e3 : mDgt (mDgt (mVar 0) (mC (.str "outs"))) (mVar 1) [some (.ref D), some (.str q.nm), some (.tup q.ms)] st = .ok (.tup (q.os.map .int)) st := dg_ok (dg_ok (v_ok rfl) rfl h.d rfl v_outs) (v_ok rfl) hO rfl vo
  have e4 : mMk "Procedure" f_Procedure_U_initU_ g_Procedure_ends (maC (mVar 1) (maC (mDgt (mDgt (mVar 0) (mC (.str "points"))) (mVar 1)) (maC (mVar 2) maN))) (maC (mDgt (mDgt (mVar 0) (mC (.str "outs"))) (mVar 1)) maN) [some (.ref D), some (.str q.nm), some (.tup q.ms)] st = .ok q.obj st :=
    (mk_ev (c_ok (v_ok rfl) (c_ok e2 (c_ok (v_ok rfl) n_ok))) (c_ok e3 n_ok)).trans (mk_ok (ok.fm q hq) st)
  show endR (sRet _ [some (.ref D), some (.str q.nm), some (.tup q.ms)] st) = _
  rw [rt_ok e4]
  rfl
/-- [f(name) for name in names] over a list that stands, where nothing changes -/
theorem lc_same {N i j : Nat} {env : Sm.Env} {m x : ME} {ys : List IV} {F : IV → IV} (hx : x env st = .ok (.ref N) st) (hN : st[N]? = some (.lst ys)) (hm : ∀ y ∈ ys, m ((env.set j none).set j (some y)) st = .ok (F y) st) (hl : ys.length ≤ big) : mLc (iLs x) (gNm j) mtYes m [j] env st = .ok (.ref st.length) (st ++ [.lst (ys.map F)]) := by
  have hs : seqOf st (.ref N) = some ys := by simp only [seqOf, lstOf, hN, ioL]
  have e := goLc_filt (s := .seq (.ref N) ys.length) (g := gNm j) (c := mtYes) (m := m) (env := env.set j none) (B := fun _ => true) (F := fun i => match ys[i]? with
    | some y => F y
    | none => .non) (st := st) (by simp [Src.fin, hs]) (fun i hi => by
    have hi : i < ys.length := hi
    refine ⟨ys[i], _, by simp [Src.item, hs, hi], rfl, rfl, fun _ => ?_⟩
    rw [List.getElem?_eq_getElem hi]
    exact hm _ (List.getElem_mem hi)) ys.length 0 [] (Nat.zero_add _) hl (Nat.le_refl _)
  have ea : [] ++ ((List.range' 0 ys.length).filter fun _ => true).map (fun i => match ys[i]? with
    | some y => F y
    | none => .non) = ys.map F := by
    rw [List.filter_eq_self.mpr (fun _ _ => rfl), List.nil_append]
    apply List.ext_getElem
    · simp
    · intro i h1 h2
      have hi : i < ys.length := by simpa using h2
      simp [hi]
  rw [ea] at e
  refine lc_ok (s := .seq (.ref N) ys.length) (st1 := st) ?_ e
  unfold iLs bnd
  rw [hx]
  simp only [lstOf, hN, ioL]
theorem made_run {D : Nat} {g : Pg} (hp : PlAt a st D g) (ok : PgOk g) (hn : noIns st = true) : runC f__law_made [.ref D] st = .ok g.obj (st ++ [.lst g.objs]) := by
  obtain ⟨F, hF⟩ : ∃ F : IV → IV, ∀ q ∈ g.ps, F (.str q.nm) = q.obj := ⟨fun v => match v with
    | .str z => (valI (g.ps.map fun q => ((.inr q.nm : L2.Key), q.obj)) (.inr z)).getD .non
    | _ => .non, fun q hq => by
      show (valI _ (.inr q.nm)).getD .non = _
      rw [valI_map (N := Pd.nm) (F := Pd.obj) ok.nd q hq]
      rfl⟩
  obtain ⟨N, P, O, M, rs, h, hrs⟩ := id hp
  have e0 : (g.names.map IV.str).map F = g.objs := by
    unfold Pg.names Pg.objs
    rw [List.map_map, List.map_map]
    exact List.map_congr_left fun q hq => hF q hq
  have e1 := lc_same (i := 0) (j := 2) (N := N) (env := [some (.ref D), none, none]) (m := mCall f__law_procedure (maC (mVar 0) (maC (mVar 2) maN))) (x := mDgt (mVar 0) (mC (.str "names"))) (F := F) (st := st) (dg_ok (v_ok rfl) rfl h.d rfl v_names) h.n (fun y hy => by
    obtain ⟨z, hz, rfl⟩ := List.mem_map.mp hy
    obtain ⟨q, hq, rfl⟩ := List.mem_map.mp hz
    rw [hF q hq]
    exact call_ok (c_ok (v_ok rfl) (c_ok (v_ok rfl) n_ok)) (proc_run hp ok hq)) (by
    rw [List.length_map]
    unfold Pg.names
    rw [List.length_map]
    exact Nat.le_trans ok.p4 (by decide))
  rw [e0] at e1
  have hd : (st ++ [IO.lst g.objs])[D]? = some (.dct (pl6 g.sz g.fs N P O M)) := by rw [List.getElem?_append_left (List.getElem?_eq_some_iff.mp h.d).1]; exact h.d
  have e2 : mCm "Program" f_Program_of g_Program_of_starts (maC (mDgt (mVar 0) (mC (.str "size"))) (maC (mVar 1) maN)) (maC (mDgt (mVar 0) (mC (.str "firsts"))) maN) [some (.ref D), some (.tup g.objs), none] (st ++ [.lst g.objs]) = .ok g.obj (st ++ [.lst g.objs]) :=
    of_ok ok (c_ok (dg_ok (v_ok rfl) rfl hd rfl v_size) (c_ok (v_ok rfl) n_ok)) (c_ok (dg_ok (v_ok rfl) rfl hd rfl v_firsts) n_ok) (noIns_app hn rfl)
  rw [runC_ref]
  show endR (b__law_made [some (.ref D), none, none] st) = _
  unfold b__law_made
  rw [seq_nx (asg_ok (tup_ok (xs := g.objs) e1 (by simp)) rfl)]
  show endR (sRet _ [some (.ref D), some (.tup g.objs), none] _) = _
  rw [rt_ok e2]
  rfl
end
end K04

set_option Elab.async false
set_option linter.all false
set_option maxRecDepth 100000
set_option maxHeartbeats 4000000
namespace K04
open Sm L2 PySem PySem.Spec
/-! ### the others -/
def OthG (a : Nat) (st0 : Hs) (g : Pg) (z : IV) : Prop := z = .non ∨ z = .int 0 ∨ z = .tup g.objs ∨ (∃ i, z = .ref i ∧ i ≠ a ∧ ((∃ xs, st0[i]? = some (.lst xs)) ∨ ∃ kvs, st0[i]? = some (.dct kvs))) ∨ (∃ q ∈ g.ps, z = q.obj) ∨ ∃ g', z = g'.obj ∧ PgOk g' ∧ g.ps.length = g'.ps.length ∧ g ≠ g'
theorem append_ok {m : ME} {env : Sm.Env} {st st1 : Hs} {i F : Nat} {L : List IV} {x : IV} (hv : env[i]? = some (some (.ref F))) (h : m env st = .ok x st1) (hF : st[F]? = some (.lst L)) (hF1 : st1[F]? = some (.lst L)) (hl : L.length < big) : sExp (mMth tAppend (mVar i) (maC m maN)) env st = .nx env (st1.set F (.lst (L ++ [x]))) := by
  have e1 : maC m maN env st = .ok [x] st1 := c_ok h n_ok
  simp only [sExp, sE, mMth, bnd, v_ok hv, hF, ioL, e1, tAppend, hF1, Option.bind_some, hl, if_true, lf, sNx]
section
variable {g : Pg}
/-- the same procedures, turned -/
theorem PgOk.rev (h : PgOk g) : PgOk ⟨g.sz, g.fs, g.ps.reverse⟩ := by
  have en : Pg.names ⟨g.sz, g.fs, g.ps.reverse⟩ = g.names.reverse := by simp [Pg.names]
  refine ⟨h.z0, h.z1, h.f0, h.fl, h.fa, h.fb, fun e => h.p0 (List.reverse_eq_nil_iff.mp e), by simpa using h.p4, ?_, fun q hq => h.fm q (List.mem_reverse.mp hq), fun q hq m hm => ?_⟩
  · rw [en]
    exact (List.reverse_perm _).nodup_iff.mpr h.nd
  · intro hh n t e
    rw [en]
    exact List.mem_reverse.mpr (h.ca q (List.mem_reverse.mp hq) m hm hh n t e)
theorem PgOk.rev_ne (h : PgOk g) (h1 : 1 < g.ps.length) : g ≠ ⟨g.sz, g.fs, g.ps.reverse⟩ := fun e => by
  have e : g.ps = g.ps.reverse := congrArg Pg.ps e
  have e2 : g.names = g.names.reverse := by
    unfold Pg.names
    rw [← List.map_reverse, ← e]
  have l1 : 1 < g.names.length := by simpa [Pg.names] using h1
  have e3 : g.names[0]? = g.names[g.names.length - 1]? := by
    conv => lhs; rw [e2]
    rw [List.getElem?_reverse (by omega)]
    rfl
  rw [List.getElem?_eq_getElem (by omega), List.getElem?_eq_getElem (by omega)] at e3
  injection e3 with e3
  exact (List.pairwise_iff_getElem.mp h.nd) 0 (g.names.length - 1) (by omega) (by omega) (by omega) e3
theorem PgOk.starts (h : PgOk g) {n : Int} (h0 : 0 ≤ n) (h1 : n < g.sz) : PgOk ⟨g.sz, [n], g.ps⟩ :=
  ⟨h.z0, h.z1, by simp, by simp, by simp, fun o ho => by rw [List.mem_singleton.mp ho]; exact ⟨h0, h1⟩, h.p0, h.p4, h.nd, h.fm, h.ca⟩
/-- one procedure has a call more -/
def callM : IV := .tup [.str "call", .int 0, .str "main", .int 0]
def Pd.plus (c : Str) (q : Pd) : Pd := if q.nm = c then { q with ms := q.ms ++ [callM] } else q
theorem plus_nm (c : Str) (q : Pd) : (Pd.plus c q).nm = q.nm := by unfold Pd.plus; split <;> rfl
theorem plus_p (c : Str) (q : Pd) : (Pd.plus c q).p = q.p := by unfold Pd.plus; split <;> rfl
theorem plus_os (c : Str) (q : Pd) : (Pd.plus c q).os = q.os := by unfold Pd.plus; split <;> rfl
def Pg.plus (c : Str) (g : Pg) : Pg := ⟨g.sz, g.fs, g.ps.map (Pd.plus c)⟩
theorem gplus_names (c : Str) (g : Pg) : (Pg.plus c g).names = g.names := by
  unfold Pg.names Pg.plus
  rw [List.map_map]
  exact List.map_congr_left fun q _ => plus_nm c q
theorem callM_mv {p : Int} {sz : Nat} (hp : 1 ≤ p) : Mv p sz callM := .inr ⟨_, _, _, rfl, ⟨0, rfl, by omega, by omega⟩, main_nm, ⟨0, rfl, by omega, by omega⟩⟩
theorem Dr.plus (h : Dr g) (c : Str) : PgOk (Pg.plus c g) := by
  have ok := h.ok
  have en := gplus_names c g
  refine ⟨ok.z0, ok.z1, ok.f0, ok.fl, ok.fa, ok.fb, fun e => ok.p0 (List.map_eq_nil_iff.mp e), by simpa [Pg.plus] using ok.p4, by rw [en]; exact ok.nd, fun q hq => ?_, fun q hq m hm => ?_⟩
  · obtain ⟨r, hr, rfl⟩ := List.mem_map.mp hq
    have f := ok.fm r hr
    have l6 := h.ms r hr
    unfold Pd.plus
    split
    · refine ⟨f.nm, f.p0, f.p1, f.z0, f.z1, ?_, fun m hm => ?_, f.ol, f.oa, f.ob⟩
      · show (r.ms ++ [callM]).length ≤ 12
        simp
        omega
      · rcases List.mem_append.mp hm with q | q
        · exact f.mv m q
        · rw [List.mem_singleton.mp q]
          exact callM_mv f.p0
    · exact f
  · rw [en]
    obtain ⟨r, hr, rfl⟩ := List.mem_map.mp hq
    have old : m ∈ r.ms → CallIn g.names m := fun hm => ok.ca r hr m hm
    unfold Pd.plus at hm
    split at hm
    · rcases List.mem_append.mp hm with q | q
      · exact old q
      · rw [List.mem_singleton.mp q]
        intro hh n t e
        simp only [callM, IV.tup.injEq, List.cons.injEq, IV.str.injEq, and_true] at e
        obtain ⟨zs, ez, _⟩ := h.zs
        rw [ez, ← e.2.2.1]
        simp
    · exact old hm
theorem plus_ne {c : Str} (hc : c ∈ g.names) : g ≠ Pg.plus c g := fun e => by
  obtain ⟨q, hq, rfl⟩ := List.mem_map.mp hc
  obtain ⟨i, hi, ei⟩ := List.getElem_of_mem hq
  have e : g.ps = g.ps.map (Pd.plus q.nm) := congrArg Pg.ps e
  have e2 : g.ps[i]? = (g.ps.map (Pd.plus q.nm))[i]? := by rw [← e]
  rw [List.getElem?_map, List.getElem?_eq_getElem hi, ei] at e2
  have e3 : q = Pd.plus q.nm q := by injection e2
  have e4 : q.ms.length = (Pd.plus q.nm q).ms.length := by rw [← e3]
  unfold Pd.plus at e4
  rw [if_pos rfl] at e4
  simp at e4
end
/-! dicts copied -/
theorem prs_items : ∀ kvs : List (L2.Key × IV), prsOf (kvs.map fun q => .tup [keyI q.1, q.2]) = some kvs
  | [] => rfl
  | q :: kvs => by
    rw [List.map_cons]
    unfold prsOf
    rw [keyOf_keyI, prs_items kvs]
theorem merge_new : ∀ (kvs acc : List (L2.Key × IV)), (acc.map (·.1) ++ kvs.map (·.1)).Nodup → mergeD acc kvs = acc ++ kvs
  | [], acc, _ => by simp [mergeD]
  | q :: kvs, acc, h => by
    have h1 : q.1 ∉ acc.map (·.1) := fun c => (List.nodup_append.mp h).2.2 q.1 c q.1 (by simp) rfl
    have e : mergeD acc (q :: kvs) = mergeD (putD acc q.1 q.2) kvs := rfl
    rw [e, putD_new h1, merge_new kvs (acc ++ [(q.1, q.2)]) (by simpa using h)]
    simp
theorem copy_ok {m : ME} {env : Sm.Env} {st st1 : Hs} {D : Nat} {kvs : List (L2.Key × IV)} (h : m env st = .ok (.ref D) st1) (hD : st1[D]? = some (.dct kvs)) (nd : (kvs.map (·.1)).Nodup) : mB bDct (maC (mLsI m) maN) env st = .ok (.ref (st1.length + 1)) ((st1 ++ [.lst (kvs.map fun q => .tup [keyI q.1, q.2])]) ++ [.dct kvs]) := by
  have e1 : mLsI m env st = .ok (.ref st1.length) (st1 ++ [.lst (kvs.map fun q => .tup [keyI q.1, q.2])]) := by
    unfold mLsI bnd
    rw [h]
    dsimp only
    rw [hD]
  refine b_ok (c_ok e1 n_ok) ?_
  unfold bDct
  dsimp only
  have h1 : lstOf (st1 ++ [IO.lst (kvs.map fun q => .tup [keyI q.1, q.2])]) (.ref st1.length) = some (kvs.map fun q => .tup [keyI q.1, q.2]) := by simp [lstOf, ioL]
  rw [h1, Option.bind_some, prs_items, Option.bind_some, merge_new kvs [] (by simpa using nd)]
  simp
theorem pl6_nd (sz : Nat) (fs : List Int) (N P O M : Nat) : ((pl6 sz fs N P O M).map (·.1)).Nodup := by
  have : ([(.inr "size" : L2.Key), .inr "names", .inr "firsts", .inr "points", .inr "outs", .inr "moves"]).Nodup := by decide +kernel
  exact this
theorem put_old {α : Type} {N : α → Str} {F : α → IV} {z : Str} {x : IV} {ps : List α} (h : z ∈ ps.map N) : putD (ps.map fun q => ((.inr (N q) : L2.Key), F q)) (.inr z) x = ps.map fun q => ((.inr (N q) : L2.Key), if N q = z then x else F q) := by
  unfold putD
  rw [if_pos, List.map_map]
  · refine List.map_congr_left fun q _ => ?_
    show (if (.inr (N q) : L2.Key) = .inr z then _ else _) = _
    by_cases e : N q = z
    · rw [if_pos (by rw [e]), if_pos e]
    · rw [if_neg (fun c => e (by injection c)), if_neg e]
  · obtain ⟨q, hq, e⟩ := List.mem_map.mp h
    refine List.any_eq_true.mpr ⟨_, List.mem_map_of_mem hq, ?_⟩
    rw [e]
    simp
/-! the list of the others grows -/
structure OJ (a : Nat) (st0 : Hs) (g : Pg) (F : Nat) (L : List IV) (st : Hs) : Prop where
  gr : Gr a st0 st
  at_ : st[F]? = some (.lst L)
  all : ∀ z ∈ L, OthG a st0 g z
section
variable {a : Nat} {st0 st : Hs} {g : Pg} {F : Nat} {L : List IV} {D B : Nat}
theorem OJ.add (h : OJ a st0 g F L st) (lF : st0.length ≤ F) (nF : F ≠ a) {st1 : Hs} (g1 : Gr a st st1) {x : IV} (hx : OthG a st0 g x) : OJ a st0 g F (L ++ [x]) (st1.set F (.lst (L ++ [x]))) := by
  have lt : F < st1.length := Nat.lt_of_lt_of_le (List.getElem?_eq_some_iff.mp h.at_).1 g1.le
  refine ⟨(h.gr.trans g1).setb nF lF, List.getElem?_set_self lt, fun z hz => ?_⟩
  rcases List.mem_append.mp hz with q | q
  · exact h.all z q
  · rw [List.mem_singleton.mp q]
    exact hx
def OB : MS := (sIf (mtB (mBin oNe (mTup (maC (mVar 6) maN)) (mVar 4))) (sExp (mMth tAppend (mVar 5) (maC (mCm "Program" f_Program_of g_Program_of_starts (maC (mVar 3) (maC (mB bTuple (maC (mVar 2) maN)) maN)) (maC (mTup (maC (mVar 6) maN)) maN)) maN))) sNx)
theorem ob_step {x6 x7 x8 x9 : Option IV} (ok : PgOk g) (hB : st0[B]? = some (.lst g.objs)) (nB : B ≠ a) (h : OJ a st0 g F L st) (lF : st0.length ≤ F) (nF : F ≠ a) (hl : L.length < 100) {n : Int} (h0 : 0 ≤ n) (h1 : n < g.sz) :
    ∃ L' st', OB [some (.ref a), some (.ref D), some (.ref B), some (.int g.sz), some g.fsI, some (.ref F), some (.int n), x7, x8, x9] st = .nx [some (.ref a), some (.ref D), some (.ref B), some (.int g.sz), some g.fsI, some (.ref F), some (.int n), x7, x8, x9] st' ∧ OJ a st0 g F L' st' ∧ L'.length ≤ L.length + 1 := by
  obtain ⟨E, hE⟩ : ∃ E : Sm.Env, E = [some (.ref a), some (.ref D), some (.ref B), some (.int g.sz), some g.fsI, some (.ref F), some (.int n), x7, x8, x9] := ⟨_, rfl⟩
  have E2 : E[2]? = some (some (.ref B)) := by rw [hE]; rfl
  have E3 : E[3]? = some (some (.int g.sz)) := by rw [hE]; rfl
  have E4 : E[4]? = some (some g.fsI) := by rw [hE]; rfl
  have E5 : E[5]? = some (some (.ref F)) := by rw [hE]; rfl
  have E6 : E[6]? = some (some (.int n)) := by rw [hE]; rfl
  obtain ⟨b, eb, hb⟩ := eqI_ple 40 (.tup [.int n]) g.fsI (ints_pe 38 [n]) (ints_pe 38 g.fs)
  have c : mtB (mBin oNe (mTup (maC (mVar 6) maN)) (mVar 4)) E st = .ok (!b) st := mtB_ok (bin_ok (tp_ok (c_ok (v_ok E6) n_ok) bg1) (v_ok E4) (by simp only [oNe, eb st, Option.map_some]))
  rw [← hE]
  unfold OB
  cases b with
  | true => exact ⟨L, st, if_no c, h, by omega⟩
  | false =>
    have ok' := PgOk.starts ok h0 h1
    have hB' := Gr.at h.gr hB nB
    have e1 : mCm "Program" f_Program_of g_Program_of_starts (maC (mVar 3) (maC (mB bTuple (maC (mVar 2) maN)) maN)) (maC (mTup (maC (mVar 6) maN)) maN) E st = .ok (Pg.obj ⟨g.sz, [n], g.ps⟩) st := of_ok ok' (c_ok (v_ok E3) (c_ok (tup_ok (v_ok E2) hB') n_ok)) (c_ok (tp_ok (c_ok (v_ok E6) n_ok) bg1) n_ok) h.gr.urn.ni
    refine ⟨_, _, (if_yes c).trans (append_ok E5 e1 h.at_ h.at_ (Nat.lt_trans hl (by decide))), h.add lF nF (Gr.refl h.gr.urn) ?_, by simp⟩
    refine .inr (.inr (.inr (.inr (.inr ⟨_, rfl, ok', rfl, fun e => ?_⟩))))
    have e : g.fs = [n] := congrArg Pg.fs e
    have : IV.tup [.int n] = g.fsI := by unfold Pg.fsI; rw [e]; rfl
    exact absurd (hb.mpr this) (by simp)
theorem ob_loop {x7 x8 x9 : Option IV} (ok : PgOk g) (hB : st0[B]? = some (.lst g.objs)) (nB : B ≠ a) (lF : st0.length ≤ F) (nF : F ≠ a) : ∀ (k i : Nat) (x6 : Option IV) (L : List IV) (st : Hs), i + k = g.sz → OJ a st0 g F L st → L.length + k < 100 →
    ∃ x6' L' st', goFor (.rng 0 g.sz) (gNm 6) OB k i [some (.ref a), some (.ref D), some (.ref B), some (.int g.sz), some g.fsI, some (.ref F), x6, x7, x8, x9] st = .nx [some (.ref a), some (.ref D), some (.ref B), some (.int g.sz), some g.fsI, some (.ref F), x6', x7, x8, x9] st' ∧ OJ a st0 g F L' st' ∧ L'.length ≤ L.length + k
  | 0, i, x6, L, st, ek, h, hl => ⟨x6, L, st, for_end rfl, h, by omega⟩
  | k + 1, i, x6, L, st, ek, h, hl => by
    obtain ⟨L1, st1, e1, h1, l1⟩ := ob_step (D := D) (x6 := x6) (x7 := x7) (x8 := x8) (x9 := x9) ok hB nB h lF nF (by omega) (n := (0 + (i : Int))) (by omega) (by omega)
    obtain ⟨x6', L2, st2, e2, h2, l2⟩ := ob_loop (x7 := x7) (x8 := x8) (x9 := x9) ok hB nB lF nF k (i + 1) (some (.int (0 + (i : Int)))) L1 st1 (by omega) h1 (by omega)
    refine ⟨x6', L2, st2, ?_, h2, by omega⟩
    have hi : i < g.sz := by omega
    exact (for_step (x := .int (0 + (i : Int))) (by simp only [Src.item, hi, if_true]) rfl e1).trans e2
end
end K04

set_option Elab.async false
set_option linter.all false
set_option maxRecDepth 100000
set_option maxHeartbeats 4000000
namespace K04
open Sm L2 PySem PySem.Spec
/-! ### the others, whole -/
section
variable {a : Nat} {st : Hs} {g : Pg} {D B : Nat}
theorem at_app {S T : Hs} {k : Nat} : (S ++ T)[S.length + k]? = T[k]? := by
  rw [List.getElem?_append_right (by omega), Nat.add_sub_cancel_left]
/-- the last ones: one procedure has a call more -/
theorem more_run {S : Hs} {E : Sm.Env} {F : Nat} {L : List IV} (u : Urn S a) (hp : PlAt a S D g) (dr : Dr g) {c : Str} (hc : c ∈ g.names) (hF : S[F]? = some (.lst L)) (nF : F ≠ a) (hL : L.length ≤ 50) (hE : E = [some (.ref a), some (.ref D), some (.ref B), some (.int g.sz), some g.fsI, some (.ref F), E[6]?.join, some (.str c), none, none]) :
    ∃ R st', (sSeq b__law_others_5 (sSeq b__law_others_6 (sSeq b__law_others_7 b__law_others_8))) E S = .rt (.ref R) st' ∧ st'[R]? = some (.lst (L ++ [(Pg.plus c g).obj])) ∧ a < R ∧ Gr a S st' := by
  obtain ⟨N, P, O, M, rs, h, hrs⟩ := id hp
  have ok := dr.ok
  have lu := u.lt
  have E1 : E[1]? = some (some (.ref D)) := by rw [hE]; rfl
  have E5 : E[5]? = some (some (.ref F)) := by rw [hE]; rfl
  have E7 : E[7]? = some (some (.str c)) := by rw [hE]; rfl
  have El : E.length = 10 := by rw [hE]; rfl
  have ern : rs.map (·.1.nm) = g.names := by
    unfold Pg.names
    rw [← hrs, List.map_map]
    rfl
  obtain ⟨r, hr, er⟩ : ∃ r ∈ rs, r.1.nm = c := by
    rw [← ern] at hc
    exact List.mem_map.mp hc
  obtain ⟨km, hkm⟩ : ∃ km : List (L2.Key × IV), km = rs.map fun r => ((.inr r.1.nm : L2.Key), IV.ref r.2) := ⟨_, rfl⟩
  have hM := h.m
  rw [← hkm] at hM
  have ndm : (km.map (·.1)).Nodup := by
    have : km.map (·.1) = g.names.map .inr := by rw [hkm, ← ern, List.map_map, List.map_map]; rfl
    rw [this]
    exact List.Pairwise.map _ (fun a b hab => fun e => by injection e with e; exact hab e) ok.nd
  obtain ⟨k6, hk6⟩ : ∃ k6, k6 = pl6 g.sz g.fs N P O M := ⟨_, rfl⟩
  have hD := h.d
  rw [← hk6] at hD
  obtain ⟨i1, hi1⟩ : ∃ i1, i1 = IO.lst (k6.map fun q => .tup [keyI q.1, q.2]) := ⟨_, rfl⟩
  obtain ⟨i2, hi2⟩ : ∃ i2, i2 = IO.lst (km.map fun q => .tup [keyI q.1, q.2]) := ⟨_, rfl⟩
  have c1 := copy_ok (env := E) (v_ok (st := S) E1) hD (by rw [hk6]; exact pl6_nd _ _ _ _ _ _)
  rw [← hi1] at c1
  have n1 : ((S ++ [i1]) ++ [IO.dct k6]).length = S.length + 2 := by simp
  have a1 : ∀ (i : Nat) (o : IO), S[i]? = some o → ((S ++ [i1]) ++ [IO.dct k6])[i]? = some o := fun i o e => by
    have := (List.getElem?_eq_some_iff.mp e).1
    rw [List.append_assoc, List.getElem?_append_left this]
    exact e
  have c2 := copy_ok (env := E) (m := mDgt (mVar 1) (mC (.str "moves"))) (dg_ok (v_ok (st := ((S ++ [i1]) ++ [IO.dct k6])) E1) rfl (a1 _ _ hD) rfl (by rw [hk6]; exact v_moves)) (a1 _ _ hM) ndm
  rw [← hi2, n1] at c2
  obtain ⟨S5, hS5⟩ : ∃ S5, S5 = (((S ++ [i1]) ++ [IO.dct k6]) ++ [i2]) ++ [IO.dct km] := ⟨_, rfl⟩
  rw [← hS5] at c2
  obtain ⟨E', hE'⟩ : ∃ E' : Sm.Env, E' = (E.set 8 (some (.ref (S.length + 1)))).set 9 (some (.ref (S.length + 3))) := ⟨_, rfl⟩
  have s5 : b__law_others_5 E S = .nx E' S5 := by
    unfold b__law_others_5 sPar2 sE
    rw [c_ok c1 (c_ok c2 n_ok), hE']
  have F1 : E'[1]? = some (some (.ref D)) := by rw [hE', List.getElem?_set_ne (by decide), List.getElem?_set_ne (by decide)]; exact E1
  have F5 : E'[5]? = some (some (.ref F)) := by rw [hE', List.getElem?_set_ne (by decide), List.getElem?_set_ne (by decide)]; exact E5
  have F7 : E'[7]? = some (some (.str c)) := by rw [hE', List.getElem?_set_ne (by decide), List.getElem?_set_ne (by decide)]; exact E7
  have F8 : E'[8]? = some (some (.ref (S.length + 1))) := by rw [hE', List.getElem?_set_ne (by decide), List.getElem?_set_self (by omega)]
  have F9 : E'[9]? = some (some (.ref (S.length + 3))) := by rw [hE', List.getElem?_set_self (by rw [List.length_set]; omega)]
  have t5 : S5 = S ++ [i1, .dct k6, i2, .dct km] := by rw [hS5]; simp
  have n5 : S5.length = S.length + 4 := by rw [t5]; simp
  have x5 : S5[S.length + 3]? = some (.dct km) := by rw [t5, at_app]; rfl
  have vm : valI km (.inr c) = some (.ref r.2) := by
    rw [hkm, ← er]
    exact valI_map (N := fun r : Pd × Nat => r.1.nm) (F := fun r => IV.ref r.2) (by rw [ern]; exact ok.nd) r hr
  obtain ⟨S6, hS6⟩ : ∃ S6, S6 = (S5 ++ [IO.lst [callM]]) ++ [IO.lst (r.1.ms ++ [callM])] := ⟨_, rfl⟩
  have hl := h.ls r hr
  have lr := (List.getElem?_eq_some_iff.mp hl.2).1
  have l6 : r.1.ms.length ≤ 6 := dr.ms r.1 (by rw [← hrs]; exact List.mem_map_of_mem hr)
  have ad : mBin oAdd (mDgt (mVar 9) (mVar 7)) (mLst (maC (mTup (maC (mC (.str "call")) (maC (mC (.int 0)) (maC (mC (.str "main")) (maC (mC (.int 0)) maN))))) maN)) E' S5 = .ok (.ref (S.length + 5)) S6 := by
    have := addL_ok (m1 := mDgt (mVar 9) (mVar 7)) (m2 := mLst (maC (mTup (maC (mC (.str "call")) (maC (mC (.int 0)) (maC (mC (.str "main")) (maC (mC (.int 0)) maN))))) maN)) (env := E') (st := S5) (st1 := S5) (st2 := S5 ++ [.lst [callM]]) (i := r.2) (j := S5.length) (xs := r.1.ms) (ys := [callM]) (dg_ok (v_ok F9) (v_ok F7) x5 rfl vm) (ls_ok (c_ok (tp_ok (c_ok rfl (c_ok rfl (c_ok rfl (c_ok rfl n_ok)))) bg4) n_ok) bg1) (by
      rw [t5, List.append_assoc, List.getElem?_append_left lr]
      exact hl.2) (by simp) (Nat.le_trans (show _ ≤ 7 by simp; omega) (by decide))
    rw [← hS6, show (S5 ++ [IO.lst [callM]]).length = S.length + 5 by simp; omega] at this
    exact this
  have t6 : S6 = S ++ [i1, .dct k6, i2, .dct km, .lst [callM], .lst (r.1.ms ++ [callM])] := by rw [hS6, t5]; simp
  have n6 : S6.length = S.length + 6 := by rw [t6]; simp
  have x6 : S6[S.length + 3]? = some (.dct km) := by rw [t6, at_app]; rfl
  have kml : km.length < big := by
    have : km.length = g.ps.length := by rw [hkm, List.length_map, ← hrs, List.length_map]
    rw [this]
    exact Nat.lt_of_le_of_lt ok.p4 (by decide)
  have s6 := dpt_ok (mo := mVar 9) (mi := mVar 7) (env := E') ad (v_ok F9) (v_ok F7) rfl x6 kml
  have em : putD km (.inr c) (.ref (S.length + 5)) = rs.map fun r => ((.inr r.1.nm : L2.Key), if r.1.nm = c then IV.ref (S.length + 5) else IV.ref r.2) := by
    rw [hkm]
    exact put_old (N := fun r : Pd × Nat => r.1.nm) (F := fun r => IV.ref r.2) (by rw [ern]; exact hc)
  obtain ⟨km', hkm'⟩ : ∃ km', km' = rs.map fun r => ((.inr r.1.nm : L2.Key), if r.1.nm = c then IV.ref (S.length + 5) else IV.ref r.2) := ⟨_, rfl⟩
  rw [em, ← hkm'] at s6
  obtain ⟨S6s, hS6s⟩ : ∃ S6s, S6s = S6.set (S.length + 3) (.dct km') := ⟨_, rfl⟩
  rw [← hS6s] at s6
  have y6 : S6s[S.length + 1]? = some (.dct k6) := by rw [hS6s, List.getElem?_set_ne (by omega), t6, at_app]; rfl
  have s7 := dpt_ok (mo := mVar 8) (mi := mC (.str "moves")) (mv := mVar 9) (env := E') (v_ok (st := S6s) F9) (v_ok F8) rfl rfl y6 (by rw [hk6]; exact (show 6 < big by decide))
  have e7 : putD k6 (.inr "moves") (.ref (S.length + 3)) = pl6 g.sz g.fs N P O (S.length + 3) := by rw [hk6]; kernel_rfl
  rw [e7] at s7
  obtain ⟨S7, hS7⟩ : ∃ S7, S7 = S6s.set (S.length + 1) (.dct (pl6 g.sz g.fs N P O (S.length + 3))) := ⟨_, rfl⟩
  rw [← hS7] at s7
  have n7 : S7.length = S.length + 6 := by rw [hS7, List.length_set, hS6s, List.length_set, n6]
  have gi1 : noIns [i1] = true := by rw [hi1]; rfl
  have gi2 : noIns [i2] = true := by rw [hi2]; rfl
  have gT : noIns [i1, .dct k6, i2, .dct km, .lst [callM], .lst (r.1.ms ++ [callM])] = true := by rw [hi1, hi2]; rfl
  have g6 : Gr a S S6 := by rw [t6]; exact Gr.app u gT
  have g7 : Gr a S S7 := by
    rw [hS7, hS6s]
    exact (g6.setb (by omega) (by omega)).setb (by omega) (by omega)
  have keep : ∀ (i : Nat) (o : IO), S[i]? = some o → S7[i]? = some o := fun i o e => by
    have := (List.getElem?_eq_some_iff.mp e).1
    rw [hS7, List.getElem?_set_ne (by omega), hS6s, List.getElem?_set_ne (by omega), t6, List.getElem?_append_left this]
    exact e
  have pg : PlAt a S7 (S.length + 1) (Pg.plus c g) := by
    refine ⟨N, P, O, S.length + 3, rs.map fun r => if r.1.nm = c then (Pd.plus c r.1, S.length + 5) else r, ⟨by omega, h.nN, h.nP, h.nO, by omega, ?_, ?_, ?_, ?_, ?_, fun x hx => ?_⟩, ?_⟩
    · rw [hS7]; exact List.getElem?_set_self (by rw [hS6s, List.length_set]; omega)
    · rw [gplus_names]; exact keep _ _ h.n
    · have : (Pg.plus c g).ps.map (fun q => (q.nm, q.p)) = g.ps.map fun q => (q.nm, q.p) := by
        unfold Pg.plus
        rw [List.map_map]
        exact List.map_congr_left fun q _ => by show ((Pd.plus c q).nm, (Pd.plus c q).p) = _; rw [plus_nm, plus_p]
      rw [this]; exact keep _ _ h.p
    · have : (Pg.plus c g).ps.map (fun q => (q.nm, q.os)) = g.ps.map fun q => (q.nm, q.os) := by
        unfold Pg.plus
        rw [List.map_map]
        exact List.map_congr_left fun q _ => by show ((Pd.plus c q).nm, (Pd.plus c q).os) = _; rw [plus_nm, plus_os]
      rw [this]; exact keep _ _ h.o
    · rw [hS7, List.getElem?_set_ne (by omega), hS6s, List.getElem?_set_self (by omega), hkm', List.map_map]
      congr 2
      refine List.map_congr_left fun x _ => ?_
      show _ = ((.inr (if x.1.nm = c then (Pd.plus c x.1, S.length + 5) else x).1.nm : L2.Key), IV.ref (if x.1.nm = c then (Pd.plus c x.1, S.length + 5) else x).2)
      by_cases e : x.1.nm = c
      · rw [if_pos e, if_pos e, plus_nm]
      · rw [if_neg e, if_neg e]
    · obtain ⟨y, hy, rfl⟩ := List.mem_map.mp hx
      by_cases e : y.1.nm = c
      · rw [if_pos e]
        have ey : y.1 = r.1 := by
          have n2 : (rs.map (·.1.nm)).Nodup := by rw [ern]; exact ok.nd
          obtain ⟨i, hi, rfl⟩ := List.getElem_of_mem hy
          obtain ⟨j, hj, ej⟩ := List.getElem_of_mem hr
          by_cases q : i = j
          · subst q; rw [ej]
          · exfalso
            rcases Nat.lt_or_gt_of_ne q with q | q
            · exact (List.pairwise_iff_getElem.mp n2) i j (by simpa using hi) (by simpa using hj) q (by simp [e, ej, er])
            · exact (List.pairwise_iff_getElem.mp n2) j i (by simpa using hj) (by simpa using hi) q (by simp [e, ej, er])
        refine ⟨by omega, ?_⟩
        rw [hS7, List.getElem?_set_ne (by omega), hS6s, List.getElem?_set_ne (by omega), t6, at_app]
        show some (IO.lst (r.1.ms ++ [callM])) = some (.lst (Pd.plus c y.1).ms)
        rw [ey]
        unfold Pd.plus
        rw [if_pos er]
      · rw [if_neg e]
        exact ⟨(h.ls y hy).1, keep _ _ (h.ls y hy).2⟩
    · unfold Pg.plus
      rw [← hrs, List.map_map, List.map_map]
      refine List.map_congr_left fun x _ => ?_
      show (if x.1.nm = c then (Pd.plus c x.1, S.length + 5) else x).1 = Pd.plus c x.1
      by_cases e : x.1.nm = c
      · rw [if_pos e]
      · rw [if_neg e]
        unfold Pd.plus
        rw [if_neg e]
  have m8 := made_run pg (Dr.plus dr c) g7.urn.ni
  obtain ⟨S8, hS8⟩ : ∃ S8, S8 = S7 ++ [.lst (Pg.plus c g).objs] := ⟨_, rfl⟩
  rw [← hS8] at m8
  have g8 : Gr a S S8 := by rw [hS8]; exact g7.trans (Gr.app g7.urn)
  have b8 : mBin oAdd (mVar 5) (mLst (maC (mCall f__law_made (maC (mVar 8) maN)) maN)) E' S7 = .ok (.ref (S8 ++ [IO.lst [(Pg.plus c g).obj]]).length) ((S8 ++ [.lst [(Pg.plus c g).obj]]) ++ [.lst (L ++ [(Pg.plus c g).obj])]) := by
    have g9 : Gr a S (S8 ++ [.lst [(Pg.plus c g).obj]]) := g8.trans (Gr.app g8.urn)
    exact addL_ok (st1 := S7) (i := F) (j := S8.length) (xs := L) (ys := [(Pg.plus c g).obj]) (v_ok F5) (ls_ok (c_ok (call_ok (c_ok (v_ok F8) n_ok) m8) n_ok) bg1) (Gr.at g9 hF nF) (by simp) (Nat.le_trans (show _ ≤ 51 by simp; omega) (by decide))
  have ga : Gr a S8 (S8 ++ [.lst [(Pg.plus c g).obj]]) := Gr.app g8.urn
  have gb : Gr a (S8 ++ [.lst [(Pg.plus c g).obj]]) ((S8 ++ [.lst [(Pg.plus c g).obj]]) ++ [.lst (L ++ [(Pg.plus c g).obj])]) := Gr.app ga.urn
  refine ⟨(S8 ++ [IO.lst [(Pg.plus c g).obj]]).length, _, ?_, ?_, by have := (g8.trans ga).le; omega, (g8.trans ga).trans gb⟩
  · rw [seq_nx s5]
    exact (seq_nx s6).trans ((seq_nx s7).trans (rt_ok b8))
  · simp
theorem others_run (u : Urn st a) (hp : PlAt a st D g) (dr : Dr g) (hB : st[B]? = some (.lst g.objs)) (nB : B ≠ a) :
    ∃ R zs st', runC f__law_others [.ref a, .ref D, .ref B] st = .ok (.ref R) st' ∧ st'[R]? = some (.lst zs) ∧ zs.length ≤ 60 ∧ (∀ z ∈ zs, OthG a st g z) ∧ a < R ∧ Gr a st st' := by
  obtain ⟨N, P, O, M, rs, h, hrs⟩ := id hp
  have ok := dr.ok
  have la := u.lt
  have ol := g.ol
  have p4 := ok.p4
  obtain ⟨q0, r0, eps⟩ : ∃ q r, g.ps = q :: r := by
    cases e : g.ps with
    | nil => exact absurd e ok.p0
    | cons q r => exact ⟨q, r, rfl⟩
  have e0 : b__law_others_0 [some (.ref a), some (.ref D), some (.ref B), none, none, none, none, none, none, none] st = .nx [some (.ref a), some (.ref D), some (.ref B), some (.int g.sz), some g.fsI, none, none, none, none, none] st := by
    unfold b__law_others_0 sPar2 sE
    rw [c_ok (dg_ok (v_ok rfl) rfl h.d rfl v_size) (c_ok (dg_ok (v_ok rfl) rfl h.d rfl v_firsts) n_ok)]
    rfl
  obtain ⟨L6, hL6⟩ : ∃ L6 : List IV, L6 = [.non, .tup g.objs, .ref N, .ref M, .int 0, q0.obj] := ⟨_, rfl⟩
  have e1 : b__law_others_1 [some (.ref a), some (.ref D), some (.ref B), some (.int g.sz), some g.fsI, none, none, none, none, none] st = .nx [some (.ref a), some (.ref D), some (.ref B), some (.int g.sz), some g.fsI, some (.ref st.length), none, none, none, none] (st ++ [.lst L6]) := by
    rw [hL6]
    exact asg_ok (ls_ok (c_ok rfl (c_ok (tup_ok (v_ok rfl) hB) (c_ok (dg_ok (v_ok rfl) rfl h.d rfl v_names) (c_ok (dg_ok (v_ok rfl) rfl h.d rfl v_moves) (c_ok rfl (c_ok (ix_ok (k := 0) (v_ok rfl) rfl (show seqOf st (.ref B) = some g.objs by simp only [seqOf, lstOf, hB, ioL]) (show g.objs[0]? = some q0.obj by unfold Pg.objs; rw [eps]; rfl)) n_ok)))))) bg6) rfl
  obtain ⟨F, hF⟩ : ∃ F, F = st.length := ⟨_, rfl⟩
  rw [← hF] at e1
  have nF : F ≠ a := by omega
  have j1 : OJ a st g F L6 (st ++ [.lst L6]) := ⟨Gr.app u, by rw [hF]; simp, fun z hz => by
    rw [hL6] at hz
    simp only [List.mem_cons, List.not_mem_nil, or_false] at hz
    rcases hz with rfl | rfl | rfl | rfl | rfl | rfl
    · exact .inl rfl
    · exact .inr (.inr (.inl rfl))
    · exact .inr (.inr (.inr (.inl ⟨N, rfl, h.nN, .inl ⟨_, h.n⟩⟩)))
    · exact .inr (.inr (.inr (.inl ⟨M, rfl, h.nM, .inr ⟨_, h.m⟩⟩)))
    · exact .inr (.inl rfl)
    · exact .inr (.inr (.inr (.inr (.inl ⟨q0, by rw [eps]; simp, rfl⟩))))⟩
  obtain ⟨s1, hs1⟩ : ∃ s1 : Hs, s1 = st ++ [.lst L6] := ⟨_, rfl⟩
  rw [← hs1] at e1 j1
  have l6 : L6.length = 6 := by rw [hL6]; rfl
  obtain ⟨E, hE⟩ : ∃ E : Sm.Env, E = [some (.ref a), some (.ref D), some (.ref B), some (.int g.sz), some g.fsI, some (.ref F), none, none, none, none] := ⟨_, rfl⟩
  have E2 : E[2]? = some (some (.ref B)) := by rw [hE]; rfl
  have E3 : E[3]? = some (some (.int g.sz)) := by rw [hE]; rfl
  have E4 : E[4]? = some (some g.fsI) := by rw [hE]; rfl
  have E5 : E[5]? = some (some (.ref F)) := by rw [hE]; rfl
  obtain ⟨L2, s2, e2, j2, l2⟩ : ∃ L2 s2, b__law_others_2 E s1 = .nx E s2 ∧ OJ a st g F L2 s2 ∧ L2.length ≤ 7 := by
    have hB1 := Gr.at j1.gr hB nB
    have c : mtB (mBin oGt (mB bLen (maC (mVar 2) maN)) (mC (.int 1))) E s1 = .ok (decide (1 < (g.objs.length : Int))) s1 := mtB_ok (bin_ok (b_ok (c_ok (v_ok E2) n_ok) (show bLen [.ref B] s1 = some (.int g.objs.length, s1) by simp only [bLen, seqOf, lstOf, hB1, ioL, Option.map_some])) rfl rfl)
    unfold b__law_others_2
    by_cases q : 1 < (g.objs.length : Int)
    · rw [decide_eq_true q] at c
      have okr := PgOk.rev ok
      have eo : Pg.objs ⟨g.sz, g.fs, g.ps.reverse⟩ = g.objs.reverse := by unfold Pg.objs; rw [List.map_reverse]
      have g2 : Gr a s1 (s1 ++ [.lst g.objs.reverse]) := Gr.app j1.gr.urn
      have rv : mRevL (mVar 2) E s1 = .ok (.ref s1.length) (s1 ++ [.lst g.objs.reverse]) := by
        unfold mRevL bnd
        rw [v_ok E2]
        simp only [lstOf, hB1, ioL, newL, lf]
      have mk : mCm "Program" f_Program_of g_Program_of_starts (maC (mVar 3) (maC (mB bTuple (maC (mRevL (mVar 2)) maN)) maN)) (maC (mVar 4) maN) E s1 = .ok (Pg.obj ⟨g.sz, g.fs, g.ps.reverse⟩) (s1 ++ [.lst g.objs.reverse]) := by
        refine of_ok okr (st1 := s1 ++ [.lst g.objs.reverse]) ?_ (c_ok (v_ok E4) n_ok) g2.urn.ni
        rw [eo]
        exact c_ok (v_ok E3) (c_ok (tup_ok (xs := g.objs.reverse) rv (by simp)) n_ok)
      refine ⟨_, _, (if_yes c).trans (append_ok E5 mk j1.at_ (Gr.at g2 j1.at_ nF) (by rw [l6]; decide)), j1.add (by omega) nF g2 (.inr (.inr (.inr (.inr (.inr ⟨_, rfl, okr, by simp, PgOk.rev_ne ok (by omega)⟩))))), by simp [l6]⟩
    · rw [decide_eq_false q] at c
      exact ⟨L6, s1, if_no c, j1, by omega⟩
  obtain ⟨x6, L3, s3, e3, j3, l3⟩ := ob_loop (D := D) (x7 := none) (x8 := none) (x9 := none) ok hB nB (by omega) nF g.sz 0 none L2 s2 (Nat.zero_add _) j2 (by have := ok.z1; omega)
  have z1 := ok.z1
  have e3' : b__law_others_3 E s2 = .nx [some (.ref a), some (.ref D), some (.ref B), some (.int g.sz), some g.fsI, some (.ref F), x6, none, none, none] s3 := by
    rw [← e3, ← hE]
    exact for_run (rg1_nat (c_ok (v_ok E3) n_ok) (by omega))
  have hp3 := hp.gr j3.gr
  have h3 := h.gr j3.gr
  have nl : 0 < (g.names.map IV.str).length := by unfold Pg.names; rw [eps]; simp
  have nl2 : (g.names.map IV.str).length < 1073741824 := by simp [Pg.names]; omega
  obtain ⟨x, s4, e4, mx, g4, _⟩ := one_run j3.gr.urn h3.n h3.nN nl nl2
  obtain ⟨c, hc, rfl⟩ := List.mem_map.mp mx
  have e4' : b__law_others_4 [some (.ref a), some (.ref D), some (.ref B), some (.int g.sz), some g.fsI, some (.ref F), x6, none, none, none] s3 = .nx [some (.ref a), some (.ref D), some (.ref B), some (.int g.sz), some g.fsI, some (.ref F), x6, some (.str c), none, none] s4 :=
    asg_ok (call_ok (c_ok (v_ok rfl) (c_ok (dg_ok (v_ok rfl) rfl h3.d rfl v_names) n_ok)) e4) rfl
  obtain ⟨R, s5, e5, hR, aR, g5⟩ := more_run (B := B) (F := F) (L := L3) (E := [some (.ref a), some (.ref D), some (.ref B), some (.int g.sz), some g.fsI, some (.ref F), x6, some (.str c), none, none]) g4.urn (hp3.gr g4) dr hc (Gr.at g4 j3.at_ nF) nF (by omega) (by cases x6 <;> rfl)
  refine ⟨R, _, s5, ?_, hR, by simp; omega, fun z hz => ?_, aR, (j3.gr.trans g4).trans g5⟩
  · rw [runC_ref]
    show endR (b__law_others [some (.ref a), some (.ref D), some (.ref B), none, none, none, none, none, none, none] st) = _
    unfold b__law_others
    rw [seq_nx e0, seq_nx e1, ← hE, seq_nx e2, seq_nx e3', seq_nx e4', e5]
    rfl
  · rcases List.mem_append.mp hz with q | q
    · exact j3.all z q
    · rw [List.mem_singleton.mp q]
      exact .inr (.inr (.inr (.inr (.inr ⟨_, rfl, Dr.plus dr c, by simp [Pg.plus], plus_ne hc⟩))))
end
end K04

set_option Elab.async false
set_option linter.all false
set_option maxRecDepth 100000
set_option maxHeartbeats 4000000
namespace K04
open Sm L2 PySem PySem.Spec
/-! ### the case, statement by statement -/
theorem lc_none {N j : Nat} {env : Sm.Env} {x : ME} {c : MT} {ys : List IV} {st : Hs} (hx : x env st = .ok (.ref N) st) (hN : st[N]? = some (.lst ys)) (hc : ∀ y ∈ ys, c ((env.set j none).set j (some y)) st = .ok false st) (hl : ys.length ≤ big) : mLc (iLs x) (gNm j) c (mVar j) [j] env st = .ok (.ref st.length) (st ++ [.lst []]) := by
  have hs : seqOf st (.ref N) = some ys := by simp only [seqOf, lstOf, hN, ioL]
  have e := goLc_filt (s := .seq (.ref N) ys.length) (g := gNm j) (c := c) (m := mVar j) (env := env.set j none) (B := fun _ => false) (F := fun _ => .non) (st := st) (by simp [Src.fin, hs]) (fun i hi => by
    have hi : i < ys.length := hi
    exact ⟨ys[i], _, by simp [Src.item, hs, hi], rfl, hc _ (List.getElem_mem hi), fun q => by cases q⟩) ys.length 0 [] (Nat.zero_add _) hl (Nat.le_refl _)
  have ef : (List.range' 0 ys.length).filter (fun _ => false) = [] := by simp
  rw [ef] at e
  refine lc_ok (s := .seq (.ref N) ys.length) (st1 := st) ?_ e
  unfold iLs bnd
  rw [hx]
  simp only [lstOf, hN, ioL]
theorem nil_ne {st : Hs} : oNe (.ref st.length) (.ref (st ++ [IO.lst []]).length) ((st ++ [.lst []]) ++ [.lst []]) = some (.bl false, (st ++ [.lst []]) ++ [.lst []]) := ne_nil st
theorem prpG {alts : Alts} {g : Pg} {f : List IV → M IV} {i : Nat} {env : Sm.Env} {st : Hs} {v : IV} (h : env[i]? = some (some g.obj)) (ha : List.lookup ("Program" : Str) alts = some f) (hf : runC f [g.obj] st = .ok v st) : mPrp alts (mVar i) env st = .ok v st := prp_ok (v_ok h) ha hf
theorem repr_of {vs : List IV} {w : Nat} (hv : ∀ v ∈ vs, Dat w 3 39 v) (hw : (w + 1) * vs.length ≤ 2 ^ 20) : ∃ z, ∀ (st : Hs) (T : Nat), st[T]? = some (.lst vs) → bRepr [.ref T] st = some (.str z, st) := by
  obtain ⟨ds, b1, b2, b3, b4, b5, b6, b7⟩ := dat_all _ hv
  have lay : PyData.layable0 (.list ds) = true := by
    show (PyData.canLayAll0 ds && decide (PyData.depthAll ds + 1 ≤ 64) && decide (PyData.weightAll ds ≤ 2 ^ 20)) = true
    have w : PyData.weightAll ds ≤ 2 ^ 20 := Nat.le_trans b4 hw
    have dd : PyData.depthAll ds + 1 ≤ 64 := by omega
    rw [b2, decide_eq_true w, decide_eq_true dd]; rfl
  have sh := PyProof.Rows.shown_le13 lay (show PyData.intsShort 13 (.list ds) = true from b5)
  refine ⟨PyData.shown (.list ds), fun st T hT => ?_⟩
  have e1 : toD st 40 (.ref T) = some (.list ds) := by
    show (ioL st[T]?).bind (fun xs => (toDs (toD st 39) xs).map PyData.list) = _
    rw [hT]
    show (toDs (toD st 39) _).map PyData.list = _
    rw [b1 st]; rfl
  unfold bRepr
  dsimp only
  rw [e1, Option.bind_some, if_pos]
  have c2 : PyData.showable (.list ds) = true := b6
  have c3 : PyData.hasDict (.list ds) = false := b7
  have c4 : (PyData.shown (.list ds)).length ≤ big := Nat.le_trans sh (by decide)
  simp [isSeqD, c2, c3, c4]
section
variable {a : Nat} {st : Hs} {g : Pg} {D N B : Nat}
def ev (a D N B : Nat) (g : Pg) (x5 x6 x7 x8 x9 : Option IV) : Sm.Env := [some (.ref a), some (.ref D), some g.obj, some (.ref N), some (.ref B), x5, x6, x7, x8, x9, none, none, none]
/-- what stands all along -/
structure At (a D N B : Nat) (g : Pg) (st : Hs) : Prop where
  u : Urn st a
  pl : PlAt a st D g
  n : st[N]? = some (.lst (g.names.map .str))
  b : st[B]? = some (.lst g.objs)
  nN : N ≠ a
  nB : B ≠ a
  vd : ∃ P O M, st[D]? = some (.dct (pl6 g.sz g.fs N P O M))
  dr : Dr g
theorem At.gr {st' : Hs} (h : At a D N B g st) (r : Gr a st st') : At a D N B g st' := by
  have nD : D ≠ a := by
    obtain ⟨_, _, _, _, _, q, _⟩ := h.pl
    exact q.nD
  obtain ⟨P, O, M, hv⟩ := h.vd
  exact ⟨r.urn, h.pl.gr r, Gr.at r h.n h.nN, Gr.at r h.b h.nB, h.nN, h.nB, ⟨P, O, M, Gr.at r hv nD⟩, h.dr⟩
theorem At.app {l : Hs} (h : At a D N B g st) (hl : noIns l = true := by rfl) : At a D N B g (st ++ l) := h.gr (Gr.app h.u hl)
theorem nml (g : Pg) : g.names.length = g.ps.length := by simp [Pg.names]
theorem r_3 (h : At a D N B g st) : b__law_right_3 (ev a D N B g none none none none none) st = .nx (ev a D N B g (some (.int (pmany g))) none none none none) (st ++ [.lst ((g.ps.map fun q => (q.ms.length : Int)).map .int)]) := by
  obtain ⟨N', P, O, M, rs, hp, hrs⟩ := h.pl
  have ok := h.dr.ok
  obtain ⟨F, hF⟩ : ∃ F : IV → IV, ∀ q ∈ g.ps, F (.str q.nm) = .int q.ms.length := ⟨fun v => match v with
    | .str z => (valI (g.ps.map fun q => ((.inr q.nm : L2.Key), IV.int q.ms.length)) (.inr z)).getD .non
    | _ => .non, fun q hq => by
      show (valI _ (.inr q.nm)).getD .non = _
      rw [valI_map (N := Pd.nm) (F := fun q => IV.int q.ms.length) ok.nd q hq]
      rfl⟩
  have e0 : (g.names.map IV.str).map F = (g.ps.map fun q => (q.ms.length : Int)).map .int := by
    unfold Pg.names
    rw [List.map_map, List.map_map, List.map_map]
    exact List.map_congr_left fun q hq => hF q hq
  have e1 := lc_same (i := 0) (j := 10) (N := N) (env := ev a D N B g none none none none none) (m := mB bLen (maC (mDgt (mDgt (mVar 1) (mC (.str "moves"))) (mVar 10)) maN)) (x := mVar 3) (F := F) (st := st) (v_ok rfl) h.n (fun y hy => by
    obtain ⟨z, hz, rfl⟩ := List.mem_map.mp hy
    obtain ⟨q, hq, rfl⟩ := List.mem_map.mp hz
    obtain ⟨r, hr, er⟩ : ∃ r ∈ rs, r.1 = q := by
      rw [← hrs] at hq
      exact List.mem_map.mp hq
    have nd : (rs.map (·.1.nm)).Nodup := by
      have e : rs.map (·.1.nm) = g.names := by
        unfold Pg.names
        rw [← hrs, List.map_map]
        rfl
      rw [e]
      exact ok.nd
    have vm := valI_map (N := fun r : Pd × Nat => r.1.nm) (F := fun r => IV.ref r.2) nd r hr
    rw [er] at vm
    have hl := (hp.ls r hr).2
    rw [er] at hl
    rw [hF q hq]
    exact b_ok (c_ok (dg_ok (dg_ok (v_ok rfl) rfl hp.d rfl v_moves) (v_ok rfl) hp.m rfl vm) n_ok) (show bLen [.ref r.2] st = some (.int q.ms.length, st) by simp only [bLen, seqOf, lstOf, hl, ioL, Option.map_some])) (by
    rw [List.length_map, nml]
    exact Nat.le_trans ok.p4 (by decide))
  rw [e0] at e1
  exact asg_ok (b_ok (c_ok e1 n_ok) (sumL (by simp))) rfl
def told (g : Pg) : List IV := [.int g.sz, g.fsI, .tup (g.names.map .str), .str g.main, .int g.ps.length]
theorem r_4 (h : At a D N B g st) {x5 : Option IV} : b__law_right_4 (ev a D N B g x5 none none none none) st = .nx (ev a D N B g x5 (some (.ref st.length)) none none none) (st ++ [.lst (told g)]) := by
  have ok := h.dr.ok
  have e2 : (ev a D N B g x5 none none none none)[2]? = some (some g.obj) := rfl
  exact asg_ok (ls_ok (c_ok (prpG e2 (show List.lookup ("Program" : Str) a_size = some f_Program_size by kernel_rfl) (size_G ok st)) (c_ok (prpG e2 (show List.lookup ("Program" : Str) a_starts = some f_Program_starts by kernel_rfl) (starts_G ok st)) (c_ok (prpG e2 (show List.lookup ("Program" : Str) a_names = some f_Program_names by kernel_rfl) (names_G ok st)) (c_ok (prpG e2 (show List.lookup ("Program" : Str) a_main = some f_Program_main by kernel_rfl) (main_G ok st)) (c_ok (b_ok (c_ok (v_ok e2) n_ok) (glenO ok st)) n_ok))))) bg5) rfl
theorem Dr.main (dr : Dr g) : g.main = "main" := by
  obtain ⟨zs, e, _⟩ := dr.zs
  unfold Pg.main
  unfold Pg.names at e
  cases h : g.ps with
  | nil => rw [h] at e; cases e
  | cons q r =>
    rw [h, List.map_cons] at e
    injection e
theorem told_dat (dr : Dr g) : ∀ v ∈ told g, Dat 45 3 39 v := by
  have ok := dr.ok
  have z0 := ok.z0
  have z1 := ok.z1
  have p4 := ok.p4
  intro v hv
  simp only [told, List.mem_cons, List.not_mem_nil, or_false] at hv
  rcases hv with rfl | rfl | rfl | rfl | rfl
  · exact (Ix.dat (l := 6) ⟨g.sz, rfl, by omega, by omega⟩ (by decide) 38).mono (by decide) (by decide)
  · refine (dat_tup (w := 8) (h := 0) (k := 38) (n := 5) (fun o ho => ?_) (by simpa using ok.fl)).mono (by decide) (by decide)
    obtain ⟨i, hi, rfl⟩ := List.mem_map.mp ho
    have := ok.fb i hi
    exact Ix.dat (l := 7) ⟨i, rfl, by omega, by omega⟩ (by decide) 37
  · refine (dat_tup (w := 8) (h := 0) (k := 38) (n := 4) (fun o ho => ?_) (by rw [List.length_map, nml]; exact p4)).mono (by decide) (by decide)
    obtain ⟨z, hz, rfl⟩ := List.mem_map.mp ho
    obtain ⟨q, hq, rfl⟩ := List.mem_map.mp hz
    exact (ok.fm q hq).nm.dat 37
  · rw [Dr.main dr]
    exact (main_nm.dat 38).mono (by decide) (by decide)
  · exact (Ix.dat (l := 6) ⟨g.ps.length, rfl, by omega, by omega⟩ (by decide) 38).mono (by decide) (by decide)
theorem r_5 (h : At a D N B g st) {x5 : Option IV} {T : Nat} (hT : st[T]? = some (.lst (told g))) : b__law_right_5 (ev a D N B g x5 (some (.ref T)) none none none) st = .nx (ev a D N B g x5 (some (.ref T)) none none none) (st ++ [.lst (told g)]) := by
  have ok := h.dr.ok
  obtain ⟨P, O, M, hv⟩ := h.vd
  obtain ⟨z, hz⟩ := repr_of (told_dat h.dr) (by show (45 + 1) * 5 ≤ 2 ^ 20; decide)
  have e2 : mLst (maC (mDgt (mVar 1) (mC (.str "size"))) (maC (mDgt (mVar 1) (mC (.str "firsts"))) (maC (mB bTuple (maC (mVar 3) maN)) (maC (mC (.str "main")) (maC (mB bLen (maC (mVar 3) maN)) maN))))) (ev a D N B g x5 (some (.ref T)) none none none) st = .ok (.ref st.length) (st ++ [.lst (told g)]) := by
    have et : told g = [.int g.sz, g.fsI, .tup (g.names.map .str), .str "main", .int (g.names.map IV.str).length] := by
      unfold told
      rw [Dr.main h.dr, List.length_map, nml]
    rw [et]
    exact ls_ok (c_ok (dg_ok (v_ok rfl) rfl hv rfl v_size) (c_ok (dg_ok (v_ok rfl) rfl hv rfl v_firsts) (c_ok (tup_ok (v_ok rfl) h.n) (c_ok rfl (c_ok (b_ok (c_ok (v_ok rfl) n_ok) (show bLen [.ref N] st = some (.int (g.names.map IV.str).length, st) by simp only [bLen, seqOf, lstOf, h.n, ioL, Option.map_some])) n_ok))))) bg5
  refine if_no (mtB_ok (bin_ok (b_ok (c_ok (v_ok rfl) n_ok) (hz st T hT)) (b_ok (c_ok e2 n_ok) (hz _ _ (by simp))) ?_))
  show (eqI _ 40 (.str z) (.str z)).map _ = _
  rw [eqI_str, beq_self_eq_true]
  rfl
theorem r_6 (h : At a D N B g st) {x6 : Option IV} : b__law_right_6 (ev a D N B g (some (.int (pmany g))) x6 none none none) st = .nx (ev a D N B g (some (.int (pmany g))) x6 (some (.str (gx4 g.ps.length (pmany g)))) none none) st := by
  have ok := h.dr.ok
  have hm := many_ok ok
  have z0 := ok.z0
  have z1 := ok.z1
  have p4 := ok.p4
  obtain ⟨L1, L2, L3, L4, L5, L6⟩ := gx_len (n := g.ps.length) (m := pmany g) (z := g.sz) (by omega) hm (by omega)
  have ln : bLen [.ref N] st = some (.int g.ps.length, st) := by
    rw [← nml, ← List.length_map (f := IV.str) (as := g.names)]
    simp only [bLen, seqOf, lstOf, h.n, ioL, Option.map_some]
  exact asg_ok (bin_ok (bin_ok (bin_ok (bin_ok (x := .str "program of ") rfl (b_ok (c_ok (b_ok (c_ok (v_ok rfl) n_ok) ln) n_ok) (strI64 (by omega) (by omega))) (addS L1)) (y := .str " procedures, ") rfl (addS L2)) (b_ok (c_ok (v_ok (x := .int (pmany g)) rfl) n_ok) (strI64 hm.1 hm.2)) (addS L3)) (y := .str " moves, ") rfl (addS L4)) rfl
theorem r_7 (h : At a D N B g st) {x5 x6 : Option IV} : b__law_right_7 (ev a D N B g x5 x6 (some (.str (gx4 g.ps.length (pmany g)))) none none) st = .nx (ev a D N B g x5 x6 (some (.str (gx4 g.ps.length (pmany g)))) none none) st := by
  have ok := h.dr.ok
  have hm := many_ok ok
  have z0 := ok.z0
  have z1 := ok.z1
  have p4 := ok.p4
  obtain ⟨P, O, M, hv⟩ := h.vd
  obtain ⟨L1, L2, L3, L4, L5, L6⟩ := gx_len (n := g.ps.length) (m := pmany g) (z := g.sz) (by omega) hm (by omega)
  refine if_no (mtB_ok (bin_ok (b_ok (c_ok (v_ok (x := g.obj) rfl) n_ok) (gstrO ok st)) (bin_ok (bin_ok (v_ok (x := .str (gx4 g.ps.length (pmany g))) rfl) (b_ok (c_ok (dg_ok (v_ok rfl) rfl hv rfl v_size) n_ok) (strI64 (i := g.sz) (by omega) (by omega))) (addS L5)) (y := .str " numbers") rfl (addS L6)) ?_))
  show (eqI st 40 (.str (gx6 g.ps.length (pmany g) g.sz)) (.str (gx6 g.ps.length (pmany g) g.sz))).map _ = _
  rw [eqI_str, beq_self_eq_true]
  rfl
theorem r_8 (h : At a D N B g st) {x5 x6 x7 : Option IV} : ∃ l, b__law_right_8 (ev a D N B g x5 x6 x7 none none) st = .nx (ev a D N B g x5 x6 x7 none none) (st ++ l) ∧ noIns l = true := by
  have ok := h.dr.ok
  obtain ⟨E, hE⟩ : ∃ E : Sm.Env, E = ev a D N B g x5 x6 x7 none none := ⟨_, rfl⟩
  have E2 : E[2]? = some (some g.obj) := by rw [hE]; rfl
  have E3 : E[3]? = some (some (.ref N)) := by rw [hE]; rfl
  have E4 : E[4]? = some (some (.ref B)) := by rw [hE]; rfl
  have lB := (List.getElem?_eq_some_iff.mp h.b).1
  have e1 : mB bList (maC (mPrp a_procedures (mVar 2)) maN) E st = .ok (.ref st.length) (st ++ [.lst g.objs]) := b_ok (c_ok (prpG E2 (show List.lookup ("Program" : Str) a_procedures = some f_Program_procedures by kernel_rfl) (procs_G ok h.u.ni)) n_ok) rfl
  have h1 := h.app (l := [.lst g.objs])
  have q1 := mtB_ok (bin_ok e1 (v_ok E4) (lists_ne ok (i := st.length) (j := B) (by simp) h1.b))
  obtain ⟨F, hF⟩ : ∃ F : IV → IV, ∀ q ∈ g.ps, F (.str q.nm) = q.obj := ⟨fun v => match v with
    | .str z => (valI (g.ps.map fun q => ((.inr q.nm : L2.Key), q.obj)) (.inr z)).getD .non
    | _ => .non, fun q hq => by
      show (valI _ (.inr q.nm)).getD .non = _
      rw [valI_map (N := Pd.nm) (F := Pd.obj) ok.nd q hq]
      rfl⟩
  have e0 : (g.names.map IV.str).map F = g.objs := by
    unfold Pg.names Pg.objs
    rw [List.map_map, List.map_map]
    exact List.map_congr_left fun q hq => hF q hq
  have e2 := lc_same (i := 0) (j := 10) (N := N) (env := E) (m := mBin (oIxO a_U_getitemU_) (mVar 2) (mVar 10)) (x := mVar 3) (F := F) (st := st ++ [.lst g.objs]) (v_ok E3) h1.n (fun y hy => by
    obtain ⟨z, hz, rfl⟩ := List.mem_map.mp hy
    obtain ⟨q, hq, rfl⟩ := List.mem_map.mp hz
    rw [hF q hq]
    exact bin_ok (v_ok (by rw [hE]; rfl)) (v_ok (by rw [hE]; rfl)) (getO ok hq h1.u.ni)) (by
    rw [List.length_map, nml]
    exact Nat.le_trans ok.p4 (by decide))
  rw [e0] at e2
  have h2 := h1.app (l := [.lst g.objs])
  have q2 := mtB_ok (bin_ok e2 (v_ok E4) (lists_ne ok (i := (st ++ [IO.lst g.objs]).length) (j := B) (by simp) h2.b))
  refine ⟨[.lst g.objs, .lst g.objs], ?_, rfl⟩
  rw [← hE]
  have := if_no (c := mtOr (mtB (mBin (oNeD q_Procedure) (mB bList (maC (mPrp a_procedures (mVar 2)) maN)) (mVar 4))) (mtB (mBin (oNeD q_Procedure) (mLc (iLs (mVar 3)) (gNm 10) mtYes (mBin (oIxO a_U_getitemU_) (mVar 2) (mVar 10)) [10]) (mVar 4)))) (a := sRet (mC (.bl false))) ((mtOr_f q1).trans q2)
  rw [List.append_assoc] at this
  exact this
theorem r_9 (h : At a D N B g st) {x5 x6 x7 : Option IV} : b__law_right_9 (ev a D N B g x5 x6 x7 none none) st = .nx (ev a D N B g x5 x6 x7 none none) ((st ++ [.lst []]) ++ [.lst []]) := by
  have ok := h.dr.ok
  have e1 := lc_none (j := 10) (N := N) (env := ev a D N B g x5 x6 x7 none none) (x := mVar 3) (c := mtB (mBin (oInO true a_U_containsU_) (mVar 10) (mVar 2))) (st := st) (v_ok rfl) h.n (fun y hy => by
    obtain ⟨z, hz, rfl⟩ := List.mem_map.mp hy
    refine mtB_ok (bin_ok (v_ok (x := .str z) rfl) (v_ok (x := g.obj) rfl) ?_)
    rw [inO ok (tyK_str _ z) (fun _ => tyK_str _ z)]
    simp [inG, hz]) (by
    rw [List.length_map, nml]
    exact Nat.le_trans ok.p4 (by decide))
  exact if_no (mtB_ok (bin_ok e1 (ls_ok n_ok (Nat.zero_le _)) nil_ne))
end
end K04

set_option Elab.async false
set_option linter.all false
set_option maxRecDepth 100000
set_option maxHeartbeats 4000000
namespace K04
open Sm L2 PySem PySem.Spec
/-! ### the case, its end -/
section
variable {a : Nat} {st st0 : Hs} {g : Pg} {D N B : Nat}
/-- what is no member, whatever it is -/
structure NoIn (st : Hs) (g : Pg) (v : IV) : Prop where
  k : tyK st v
  k0 : clI v = true → tyK [] v
  no : inG g v = false
def oddL (q : Pd) (g : Pg) (i j : Nat) : List IV := [.non, .int 0, .str "", .str "zz", .tup [.str "main"], .ref i, .ref j, .bl true, q.obj, g.obj, .str "main "]
theorem odd_str : ∀ z ∈ ([("" : Str), "zz", "main "] : List Str), z ∉ (("main" : Str) :: PQA) := by decide +kernel
theorem Dr.notin (dr : Dr g) {z : Str} (h : z ∉ (("main" : Str) :: PQA)) : inG g (.str z) = false := by
  obtain ⟨zs, e, hz⟩ := dr.zs
  refine decide_eq_false fun c => h ?_
  rw [e] at c
  rcases List.mem_cons.mp c with c | c
  · rw [c]; simp
  · exact List.mem_cons_of_mem _ (hz z c)
theorem odd_no (dr : Dr g) {q : Pd} {i j : Nat} (hi : st[i]? = some (.lst [.str "main"])) (hj : st[j]? = some (.dct [])) : ∀ v ∈ oddL q g i j, NoIn st g v := by
  have oc : ("Procedure" : Str) ∈ own_cs ∧ ("Program" : Str) ∈ own_cs := by decide +kernel
  intro v hv
  simp only [oddL, List.mem_cons, List.not_mem_nil, or_false] at hv
  rcases hv with rfl | rfl | rfl | rfl | rfl | rfl | rfl | rfl | rfl | rfl | rfl
  · exact ⟨.inl ⟨_, rfl⟩, fun _ => .inl ⟨_, rfl⟩, rfl⟩
  · exact ⟨.inl ⟨_, rfl⟩, fun _ => .inl ⟨_, rfl⟩, rfl⟩
  · exact ⟨tyK_str _ _, fun _ => tyK_str _ _, Dr.notin dr (odd_str _ (by simp))⟩
  · exact ⟨tyK_str _ _, fun _ => tyK_str _ _, Dr.notin dr (odd_str _ (by simp))⟩
  · exact ⟨.inl ⟨_, rfl⟩, fun _ => .inl ⟨_, rfl⟩, rfl⟩
  · exact ⟨.inl ⟨"list", by simp [tyOf, tyName, hi]⟩, (fun c => by cases c), rfl⟩
  · exact ⟨.inl ⟨"dict", by simp [tyOf, tyName, hj]⟩, (fun c => by cases c), rfl⟩
  · exact ⟨.inl ⟨_, rfl⟩, fun _ => .inl ⟨_, rfl⟩, rfl⟩
  · exact ⟨.inr ⟨_, oc.1, rfl⟩, fun _ => .inr ⟨_, oc.1, rfl⟩, rfl⟩
  · exact ⟨.inr ⟨_, oc.2, rfl⟩, fun _ => .inr ⟨_, oc.2, rfl⟩, rfl⟩
  · exact ⟨tyK_str _ _, fun _ => tyK_str _ _, Dr.notin dr (odd_str _ (by simp))⟩
theorem r_10 (h : At a D N B g st) {x5 x6 x7 : Option IV} {q0 : Pd} {r0 : List Pd} (eps : g.ps = q0 :: r0) : b__law_right_10 (ev a D N B g x5 x6 x7 none none) st = .nx (ev a D N B g x5 x6 x7 (some (.ref (st.length + 2))) none) (st ++ [.lst [.str "main"], .dct [], .lst (oddL q0 g st.length (st.length + 1))]) := by
  have h1 := h.app (l := [.lst [.str "main"]])
  have h2 := h1.app (l := [.dct []])
  have n1 : (st ++ [IO.lst [.str "main"]]).length = st.length + 1 := by simp
  have n2 : ((st ++ [IO.lst [.str "main"]]) ++ [IO.dct []]).length = st.length + 2 := by simp
  have e2 : mDct (ev a D N B g x5 x6 x7 none none) (st ++ [.lst [.str "main"]]) = .ok (.ref (st.length + 1)) ((st ++ [.lst [.str "main"]]) ++ [.dct []]) := by
    unfold mDct
    rw [n1]
  have e3 := ls_ok (c_ok (m := mC .non) (env := ev a D N B g x5 x6 x7 none none) (st := st) rfl (c_ok (m := mC (.int 0)) rfl (c_ok (m := mC (.str "")) rfl (c_ok (m := mC (.str "zz")) rfl (c_ok (tp_ok (c_ok (m := mC (.str "main")) rfl n_ok) bg1) (c_ok (ls_ok (c_ok (m := mC (.str "main")) rfl n_ok) bg1) (c_ok e2 (c_ok (m := mC (.bl true)) rfl (c_ok (ix_ok (m1 := mVar 4) (m2 := mC (.int 0)) (k := 0) (v_ok rfl) rfl (show seqOf ((st ++ [IO.lst [.str "main"]]) ++ [IO.dct []]) (.ref B) = some g.objs by simp only [seqOf, lstOf, h2.b, ioL]) (show g.objs[0]? = some q0.obj by unfold Pg.objs; rw [eps]; rfl)) (c_ok (m := mVar 2) (v_ok rfl) (c_ok (m := mC (.str "main ")) rfl n_ok))))))))))) bg11
  rw [n2] at e3
  have e4 := asg_ok (g := gNm 8) e3 rfl
  rw [List.append_assoc, List.append_assoc] at e4
  exact e4
theorem r_11 (h : At a D N B g st) {x5 x6 x7 : Option IV} {K : Nat} {L : List IV} (hK : st[K]? = some (.lst L)) (hl : L.length ≤ 20) (no : ∀ v ∈ L, NoIn st g v) : b__law_right_11 (ev a D N B g x5 x6 x7 (some (.ref K)) none) st = .nx (ev a D N B g x5 x6 x7 (some (.ref K)) none) ((st ++ [.lst []]) ++ [.lst []]) := by
  have ok := h.dr.ok
  have e1 := lc_none (j := 11) (N := K) (env := ev a D N B g x5 x6 x7 (some (.ref K)) none) (x := mVar 8) (c := mtB (mBin (oInO false a_U_containsU_) (mVar 11) (mVar 2))) (st := st) (v_ok rfl) hK (fun y hy => by
    have n := no y hy
    refine mtB_ok (bin_ok (v_ok (x := y) rfl) (v_ok (x := g.obj) rfl) ?_)
    rw [inO ok n.k n.k0, n.no]
    rfl) (Nat.le_trans hl (by decide))
  exact if_no (mtB_ok (bin_ok e1 (ls_ok n_ok (Nat.zero_le _)) nil_ne))
theorem oth_eq (dr : Dr g) {z : IV} (h : OthG a st0 g z) (gr : Gr a st0 st) : runC f_Program_U_eqU_ [g.obj, z] st = .ok (.bl false) st ∧ tyK st z := by
  have ok := dr.ok
  have oc : ("Procedure" : Str) ∈ own_cs ∧ ("Program" : Str) ∈ own_cs := by decide +kernel
  rcases h with rfl | rfl | rfl | ⟨i, rfl, ni, hi⟩ | ⟨q, hq, rfl⟩ | ⟨g', rfl, ok', hl, hne⟩
  · exact ⟨geq_no ok (.inl ⟨_, rfl⟩) (fun _ => .inl ⟨_, rfl⟩), .inl ⟨_, rfl⟩⟩
  · exact ⟨geq_no ok (.inl ⟨_, rfl⟩) (fun _ => .inl ⟨_, rfl⟩), .inl ⟨_, rfl⟩⟩
  · exact ⟨geq_no ok (.inl ⟨_, rfl⟩) (fun _ => .inl ⟨_, rfl⟩), .inl ⟨_, rfl⟩⟩
  · have : ∃ t, tyOf st (.ref i) = some (.bi t) := by
      rcases hi with ⟨xs, e⟩ | ⟨kvs, e⟩
      · exact ⟨"list", by simp [tyOf, tyName, Gr.at gr e ni]⟩
      · exact ⟨"dict", by simp [tyOf, tyName, Gr.at gr e ni]⟩
    exact ⟨geq_no ok (.inl this) (fun c => by cases c), .inl this⟩
  · exact ⟨geq_no ok (.inr rfl) (fun _ => .inr rfl), .inr ⟨_, oc.1, rfl⟩⟩
  · obtain ⟨b, e, hb⟩ := geq_T ok ok' hl
    have : b = false := by
      cases b with
      | false => rfl
      | true => exact absurd (hb.mp rfl) hne
    subst this
    exact ⟨e st, .inr ⟨_, oc.2, rfl⟩⟩
theorem r_13 (h : At a D N B g st) {x5 x6 x7 x8 : Option IV} {R : Nat} {zs : List IV} (hR : st[R]? = some (.lst zs)) (hl : zs.length ≤ 60) (ho : ∀ z ∈ zs, OthG a st0 g z) (gr : Gr a st0 st) (nR : R ≠ a) : b__law_right_13 (ev a D N B g x5 x6 x7 x8 (some (.ref R))) st = .nx (ev a D N B g x5 x6 x7 x8 (some (.ref R))) ((((st ++ [.lst []]) ++ [.lst []]) ++ [.lst []]) ++ [.lst []]) := by
  obtain ⟨E, hE⟩ : ∃ E : Sm.Env, E = ev a D N B g x5 x6 x7 x8 (some (.ref R)) := ⟨_, rfl⟩
  have E2 : ∀ y : IV, ((E.set 12 none).set 12 (some y))[2]? = some (some g.obj) := fun y => by rw [hE]; rfl
  have E9 : E[9]? = some (some (.ref R)) := by rw [hE]; rfl
  have Ey : ∀ y : IV, ((E.set 12 none).set 12 (some y))[12]? = some (some y) := fun y => by rw [hE]; rfl
  have e1 := lc_none (j := 12) (N := R) (env := E) (x := mVar 9) (c := mtB (mBin (oOwx own_cs oEq false a_U_eqU_) (mVar 2) (mVar 12))) (st := st) (v_ok E9) hR (fun y hy => by
    obtain ⟨e, k⟩ := oth_eq h.dr (ho y hy) gr
    exact mtB_ok (bin_ok (v_ok (E2 y)) (v_ok (Ey y)) (eqX_ok k e))) (Nat.le_trans hl (by decide))
  have q1 := mtB_ok (bin_ok e1 (ls_ok n_ok (Nat.zero_le _)) nil_ne)
  obtain ⟨S, hS⟩ : ∃ S : Hs, S = (st ++ [.lst []]) ++ [.lst []] := ⟨_, rfl⟩
  rw [← hS] at q1 ⊢
  have gS : Gr a st S := by
    have g1 : Gr a st (st ++ [.lst []]) := Gr.app h.u
    rw [hS]
    exact g1.trans (Gr.app g1.urn)
  have e2 := lc_none (j := 12) (N := R) (env := E) (x := mVar 9) (c := mtNot (mtB (mBin (oOwx own_cs oNe true a_U_eqU_) (mVar 2) (mVar 12)))) (st := S) (v_ok E9) (Gr.at gS hR nR) (fun y hy => by
    obtain ⟨e, k⟩ := oth_eq h.dr (ho y hy) (gr.trans gS)
    exact mtNot_ok (mtB_ok (bin_ok (v_ok (E2 y)) (v_ok (Ey y)) (eqX_ok k e)))) (Nat.le_trans hl (by decide))
  have q2 := mtB_ok (bin_ok e2 (ls_ok n_ok (Nat.zero_le _)) nil_ne)
  rw [← hE]
  exact if_no ((mtOr_f q1).trans q2)
theorem r_14 (h : At a D N B g st) {x5 x6 x7 x8 x9 : Option IV} : ∃ st', b__law_right_14 (ev a D N B g x5 x6 x7 x8 x9) st = .rt (.bl true) st' ∧ noIns st' = true := by
  have ok := h.dr.ok
  obtain ⟨b, e, hb⟩ := geq_T ok ok rfl
  have : b = true := hb.mpr rfl
  subst this
  have k : ∀ s, tyK s g.obj := fun s => .inr ⟨_, by decide +kernel, rfl⟩
  obtain ⟨E, hE⟩ : ∃ E : Sm.Env, E = ev a D N B g x5 x6 x7 x8 x9 := ⟨_, rfl⟩
  have E1 : E[1]? = some (some (.ref D)) := by rw [hE]; rfl
  have E2 : E[2]? = some (some g.obj) := by rw [hE]; rfl
  obtain ⟨S, hS⟩ : ∃ S : Hs, S = st ++ [.lst g.objs] := ⟨_, rfl⟩
  have m1 := made_run h.pl ok h.u.ni
  rw [← hS] at m1
  have hS2 : noIns S = true := by rw [hS]; exact noIns_app h.u.ni rfl
  have e1 : mBin (oOwx own_cs oEq false a_U_eqU_) (mVar 2) (mCall f__law_made (maC (mVar 1) maN)) E st = .ok (.bl true) S := bin_ok (v_ok E2) (call_ok (c_ok (v_ok E1) n_ok) m1) (eqX_ok (k _) (e S))
  have e2 : mCm "Program" f_Program_of g_Program_of_starts (maC (mPrp a_size (mVar 2)) (maC (mPrp a_procedures (mVar 2)) maN)) (maC (mPrp a_starts (mVar 2)) maN) E S = .ok g.obj S :=
    of_ok ok (c_ok (prpG E2 (show List.lookup ("Program" : Str) a_size = some f_Program_size by kernel_rfl) (size_G ok S)) (c_ok (prpG E2 (show List.lookup ("Program" : Str) a_procedures = some f_Program_procedures by kernel_rfl) (procs_G ok hS2)) n_ok)) (c_ok (prpG E2 (show List.lookup ("Program" : Str) a_starts = some f_Program_starts by kernel_rfl) (starts_G ok S)) n_ok) hS2
  have e3 : mBin (oOwx own_cs oNe true a_U_eqU_) (mVar 2) (mCm "Program" f_Program_of g_Program_of_starts (maC (mPrp a_size (mVar 2)) (maC (mPrp a_procedures (mVar 2)) maN)) (maC (mPrp a_starts (mVar 2)) maN)) E S = .ok (.bl false) S := bin_ok (v_ok E2) e2 (eqX_ok (k _) (e S))
  have e4 : mNot (mBin (oOwx own_cs oNe true a_U_eqU_) (mVar 2) (mCm "Program" f_Program_of g_Program_of_starts (maC (mPrp a_size (mVar 2)) (maC (mPrp a_procedures (mVar 2)) maN)) (maC (mPrp a_starts (mVar 2)) maN))) E S = .ok (.bl true) S := by
    simp only [mNot, bnd, e3, asB, Sm.ret, Bool.not_false]
  refine ⟨S, ?_, hS2⟩
  rw [← hE]
  exact rt_ok ((and_t e1).trans e4)
theorem right_ok (u : Urn st a) : ∃ st', runC f__law_right [.ref a] st = .ok (.bl true) st' ∧ noIns st' = true := by
  obtain ⟨D, g, s0, e0, pl, dr, nD, g0⟩ := plain_run (lots := 4) u (by decide) (by decide)
  have ok := dr.ok
  obtain ⟨N, P, O, M, rs, hp, hrs⟩ := id pl
  obtain ⟨q0, r0, eps⟩ : ∃ q r, g.ps = q :: r := by
    cases e : g.ps with
    | nil => exact absurd e ok.p0
    | cons q r => exact ⟨q, r, rfl⟩
  have q0' : b__law_right_0 [some (.ref a), none, none, none, none, none, none, none, none, none, none, none, none] st = .nx [some (.ref a), some (.ref D), none, none, none, none, none, none, none, none, none, none, none] s0 := asg_ok (call_ok (c_ok (v_ok rfl) (c_ok rfl n_ok)) e0) rfl
  have m1 := made_run pl ok g0.urn.ni
  obtain ⟨s1, hs1⟩ : ∃ s1 : Hs, s1 = s0 ++ [.lst g.objs] := ⟨_, rfl⟩
  rw [← hs1] at m1
  have g1 : Gr a s0 s1 := by rw [hs1]; exact Gr.app g0.urn
  have pl1 := pl.gr g1
  have hp1 := hp.gr g1
  have q1 : b__law_right_1 [some (.ref a), some (.ref D), none, none, none, none, none, none, none, none, none, none, none] s0 = .nx [some (.ref a), some (.ref D), some g.obj, some (.ref N), none, none, none, none, none, none, none, none, none] s1 :=
    asg_ok (tp_ok (c_ok (call_ok (c_ok (v_ok rfl) n_ok) m1) (c_ok (dg_ok (v_ok rfl) rfl hp1.d rfl v_names) n_ok)) bg2) rfl
  obtain ⟨F, hF⟩ : ∃ F : IV → IV, ∀ q ∈ g.ps, F (.str q.nm) = q.obj := ⟨fun v => match v with
    | .str z => (valI (g.ps.map fun q => ((.inr q.nm : L2.Key), q.obj)) (.inr z)).getD .non
    | _ => .non, fun q hq => by
      show (valI _ (.inr q.nm)).getD .non = _
      rw [valI_map (N := Pd.nm) (F := Pd.obj) ok.nd q hq]
      rfl⟩
  have ef : (g.names.map IV.str).map F = g.objs := by
    unfold Pg.names Pg.objs
    rw [List.map_map, List.map_map]
    exact List.map_congr_left fun q hq => hF q hq
  have e2 := lc_same (i := 0) (j := 10) (N := N) (env := [some (.ref a), some (.ref D), some g.obj, some (.ref N), none, none, none, none, none, none, none, none, none]) (m := mCall f__law_procedure (maC (mVar 1) (maC (mVar 10) maN))) (x := mVar 3) (F := F) (st := s1) (v_ok rfl) hp1.n (fun y hy => by
    obtain ⟨z, hz, rfl⟩ := List.mem_map.mp hy
    obtain ⟨q, hq, rfl⟩ := List.mem_map.mp hz
    rw [hF q hq]
    exact call_ok (c_ok (v_ok rfl) (c_ok (v_ok rfl) n_ok)) (proc_run pl1 ok hq)) (by
    rw [List.length_map, nml]
    exact Nat.le_trans ok.p4 (by decide))
  rw [ef] at e2
  obtain ⟨B, hB⟩ : ∃ B, B = s1.length := ⟨_, rfl⟩
  obtain ⟨s2, hs2⟩ : ∃ s2 : Hs, s2 = s1 ++ [.lst g.objs] := ⟨_, rfl⟩
  rw [← hs2, ← hB] at e2
  have g2 : Gr a s1 s2 := by rw [hs2]; exact Gr.app g1.urn
  have q2 : b__law_right_2 [some (.ref a), some (.ref D), some g.obj, some (.ref N), none, none, none, none, none, none, none, none, none] s1 = .nx (ev a D N B g none none none none none) s2 := asg_ok e2 rfl
  have h2 : At a D N B g s2 := ⟨g2.urn, pl1.gr g2, (hp1.gr g2).n, by rw [hs2, hB]; simp, hp.nN, by rw [hB]; have := g1.urn.lt; omega, ⟨P, O, M, (hp1.gr g2).d⟩, dr⟩
  have q3 := r_3 h2
  have h3 := h2.app (l := [.lst ((g.ps.map fun q => (q.ms.length : Int)).map .int)])
  generalize (s2 ++ [IO.lst ((g.ps.map fun q => (q.ms.length : Int)).map .int)]) = s3 at q3 h3
  have q4 := r_4 h3 (x5 := some (.int (pmany g)))
  have h4 := h3.app (l := [.lst (told g)])
  have T4 : (s3 ++ [IO.lst (told g)])[s3.length]? = some (.lst (told g)) := by simp
  generalize (s3 ++ [IO.lst (told g)]) = s4 at q4 h4 T4
  have q5 := r_5 h4 (x5 := some (.int (pmany g))) T4
  have h5 := h4.app (l := [.lst (told g)])
  generalize (s4 ++ [IO.lst (told g)]) = s5 at q5 h5
  have q6 := r_6 h5 (x6 := some (.ref s3.length))
  have q7 := r_7 h5 (x5 := some (.int (pmany g))) (x6 := some (.ref s3.length))
  obtain ⟨l8, q8, n8⟩ := r_8 h5 (x5 := some (.int (pmany g))) (x6 := some (.ref s3.length)) (x7 := some (.str (gx4 g.ps.length (pmany g))))
  have h8 := h5.app (l := l8) n8
  generalize (s5 ++ l8) = s8 at q8 h8
  have q9 := r_9 h8 (x5 := some (.int (pmany g))) (x6 := some (.ref s3.length)) (x7 := some (.str (gx4 g.ps.length (pmany g))))
  have h9 := (h8.app (l := [.lst []])).app (l := [.lst []])
  generalize ((s8 ++ [IO.lst []]) ++ [IO.lst []]) = s9 at q9 h9
  have q10 := r_10 h9 (x5 := some (.int (pmany g))) (x6 := some (.ref s3.length)) (x7 := some (.str (gx4 g.ps.length (pmany g)))) eps
  have h10 := h9.app (l := [.lst [.str "main"], .dct [], .lst (oddL q0 g s9.length (s9.length + 1))])
  have K10 : (s9 ++ [IO.lst [.str "main"], .dct [], .lst (oddL q0 g s9.length (s9.length + 1))])[s9.length + 2]? = some (.lst (oddL q0 g s9.length (s9.length + 1))) := at_app
  have no := odd_no dr (q := q0) (st := s9 ++ [IO.lst [.str "main"], .dct [], .lst (oddL q0 g s9.length (s9.length + 1))]) (i := s9.length) (j := s9.length + 1) (by have := at_app (S := s9) (T := [IO.lst [.str "main"], .dct [], .lst (oddL q0 g s9.length (s9.length + 1))]) (k := 0); exact this) at_app
  generalize (s9 ++ [IO.lst [.str "main"], .dct [], .lst (oddL q0 g s9.length (s9.length + 1))]) = s10 at q10 h10 K10 no
  have q11 := r_11 h10 (x5 := some (.int (pmany g))) (x6 := some (.ref s3.length)) (x7 := some (.str (gx4 g.ps.length (pmany g)))) K10 (show 11 ≤ 20 by decide) no
  have h11 := (h10.app (l := [.lst []])).app (l := [.lst []])
  generalize ((s10 ++ [IO.lst []]) ++ [IO.lst []]) = s11 at q11 h11
  obtain ⟨R, zs, s12, e12, hR, lz, oz, aR, g12⟩ := others_run h11.u h11.pl dr h11.b h11.nB
  have h12 := h11.gr g12
  have nR : R ≠ a := by omega
  have q12 : b__law_right_12 (ev a D N B g (some (.int (pmany g))) (some (.ref s3.length)) (some (.str (gx4 g.ps.length (pmany g)))) (some (.ref (s9.length + 2))) none) s11 = .nx (ev a D N B g (some (.int (pmany g))) (some (.ref s3.length)) (some (.str (gx4 g.ps.length (pmany g)))) (some (.ref (s9.length + 2))) (some (.ref R))) s12 := asg_ok (call_ok (c_ok (v_ok rfl) (c_ok (v_ok rfl) (c_ok (v_ok rfl) n_ok))) e12) rfl
  have q13 := r_13 h12 (x5 := some (.int (pmany g))) (x6 := some (.ref s3.length)) (x7 := some (.str (gx4 g.ps.length (pmany g)))) (x8 := some (.ref (s9.length + 2))) hR lz oz g12 nR
  have h13 := (((h12.app (l := [.lst []])).app (l := [.lst []])).app (l := [.lst []])).app (l := [.lst []])
  obtain ⟨s14, q14, n14⟩ := r_14 h13 (x5 := some (.int (pmany g))) (x6 := some (.ref s3.length)) (x7 := some (.str (gx4 g.ps.length (pmany g)))) (x8 := some (.ref (s9.length + 2))) (x9 := some (.ref R))
  refine ⟨s14, ?_, n14⟩
  rw [runC_ref]
  show endR (b__law_right [some (.ref a), none, none, none, none, none, none, none, none, none, none, none, none] st) = _
  unfold b__law_right
  rw [seq_nx q0', seq_nx q1, seq_nx q2, seq_nx q3, seq_nx q4, seq_nx q5, seq_nx q6, seq_nx q7, seq_nx q8, seq_nx q9, seq_nx q10, seq_nx q11, seq_nx q12, seq_nx q13, q14]
  rfl
end
end K04

set_option Elab.async false
set_option linter.all false
set_option maxRecDepth 100000
set_option maxHeartbeats 4000000
namespace K04
open Sm L2 PySem PySem.Spec
/-! ### the law -/
abbrev le (ns : List Int) (e : Option IV) : Sm.Env := [some (.rl (ns.map .int)), e, none, none, none]
def lbody : MS := sIf (mtNot (mtB (mCall f__law_right (maC (mCall f__law_urn (maC (mVar 0) (maC (mVar 1) maN))) maN)))) (sRet (mC (.bl false))) sNx
theorem body_ok {ns : List Int} {i : Int} (h0 : 0 ≤ i) (st : Hs) (hn : noIns st = true) : ∃ st', lbody (le ns (some (.int i))) st = .nx (le ns (some (.int i))) st' ∧ noIns st' = true := by
  obtain ⟨o, e, u⟩ := urn_run (ns := ns) h0 st
  have no : noIns [o] = true := by obtain ⟨_, _, _, rfl⟩ := u; rfl
  obtain ⟨st', e2, n2⟩ := right_ok (st := st ++ [o]) (a := st.length) ⟨⟨o, by simp, u⟩, noIns_app hn no⟩
  exact ⟨st', if_no (mtNot_ok (mtB_ok (call_ok (c_ok (call_ok (c_ok (v_ok rfl) (c_ok (v_ok rfl) n_ok)) e) n_ok) e2))), n2⟩
theorem loop_ok {ns : List Int} {n : Nat} : ∀ (k i : Nat) (e : Option IV) (st : Hs), i + k = n → noIns st = true → ∃ e' st', goFor (.rng 0 n) (gNm 1) lbody k i (le ns e) st = .nx (le ns e') st' ∧ ((∃ j, e' = some (.int j)) ∨ (k = 0 ∧ e' = e))
  | 0, i, e, st, h, hn => ⟨e, st, for_end rfl, .inr ⟨rfl, rfl⟩⟩
  | k + 1, i, e, st, h, hn => by
    obtain ⟨st1, e1, n1⟩ := body_ok (ns := ns) (i := (0 + (i : Int))) (by omega) st hn
    obtain ⟨e', st2, e2, h2⟩ := loop_ok (ns := ns) (n := n) k (i + 1) (some (.int (0 + (i : Int)))) st1 (by omega) n1
    refine ⟨e', st2, ?_, .inl ?_⟩
    · have hi : i < n := by omega
      exact (for_step (by simp only [Src.item, hi, if_true]) rfl e1).trans e2
    · rcases h2 with h2 | ⟨_, h2⟩
      · exact h2
      · exact ⟨_, h2⟩
theorem first_ok {ns : List Int} (hn : ns.length ≤ 63) : ∃ j, b_law_0 (le ns none) [] = .nx (le ns (some (.int j))) [] := by
  obtain ⟨m, hm⟩ : ∃ m : Int, m = (if (if (ns.length : Int) < 8 then (ns.length : Int) else 8) > 1 then (if (ns.length : Int) < 8 then (ns.length : Int) else 8) else 1) := ⟨_, rfl⟩
  have m1 : 1 ≤ m := by rw [hm]; split <;> omega
  have m2 : m ≤ 12 := by rw [hm]; split <;> (try split) <;> omega
  obtain ⟨e', st', e1, h1⟩ := loop_ok (ns := ns) (n := m.toNat) m.toNat 0 none [] (Nat.zero_add _) rfl
  rcases h1 with ⟨j, rfl⟩ | ⟨z, _⟩
  · refine ⟨j, ?_⟩
    obtain ⟨n, rfl⟩ := Int.eq_ofNat_of_zero_le (show 0 ≤ m by omega)
    have ei : iRg1 (maC (mB bMax (maC (mC (.int 1)) (maC (mB bMin (maC (mC (.int 8)) (maC (mB bLen (maC (mVar 0) maN)) maN))) maN))) maN) (le ns none) [] = .ok (.rng 0 n) [] := by
      refine rg1_nat (c_ok (b_ok (c_ok rfl (c_ok (b_ok (c_ok rfl (c_ok (b_ok (c_ok (v_ok rfl) n_ok) rfl) n_ok)) rfl) n_ok)) ?_) n_ok) (by omega)
      rw [hm]
      simp only [bMax, List.length_map]
    show sGc (sFor (iRg1 (maC (mB bMax (maC (mC (.int 1)) (maC (mB bMin (maC (mC (.int 8)) (maC (mB bLen (maC (mVar 0) maN)) maN))) maN))) maN)) (gNm 1) lbody) (le ns none) [] = _
    unfold sGc
    rw [(for_run ei).trans e1]
    simp [clEnv, clI, cls_ints]
  · omega
def lrest : MS := sSeq b_law_1 (sSeq b_law_2 (sSeq b_law_3 b_law_4))
theorem rest_ok (ns : List Int) (j : Int) : okB (lrest (le ns (some (.int j))) []) = some true := by kernel_rfl
theorem good (ns : List Int) (hn : ns.length ≤ 63) : ∃ st, f_law [.rl (ns.map .int)] [] = .ok (.bl true) st := by
  obtain ⟨j, e⟩ := first_ok hn
  have e2 : b_law (le ns none) [] = lrest (le ns (some (.int j))) [] := by
    unfold b_law
    exact seq_nx e
  show ∃ st, endR (b_law (le ns none) []) = _
  rw [e2]
  exact okB_true ⟨_, rest_ok ns j, rfl⟩
end K04

set_option Elab.async false
set_option linter.all false
set_option maxRecDepth 100000
set_option maxHeartbeats 0
namespace K04
open Sm L2 PySem PySem.Spec
def top (i : Nat) : Stmt := PySem.Challenge.pw_stepmarks_k04_programs_by_their_form.main.body.getD i (.Pass ⟨0, 0, 0, 0⟩)
def met (i j : Nat) : Stmt := match top i with
  | .ClassDef _ _ _ body _ _ _ _ _ _ _ => body.getD j (.Pass ⟨0, 0, 0, 0⟩)
  | _ => .Pass ⟨0, 0, 0, 0⟩
/-! what is asked of the written part -/
structure Fx (K : PySem.W.Frag) (mg : Str → Option Value) : Prop where
  n_abs : mg "abs" = none
  n_all : mg "all" = none
  n_bool : mg "bool" = none
  n_dict : mg "dict" = none
  n_enumerate : mg "enumerate" = none
  n_int : mg "int" = none
  n_isinstance : mg "isinstance" = none
  n_len : mg "len" = none
  n_list : mg "list" = none
  n_max : mg "max" = none
  n_min : mg "min" = none
  n_range : mg "range" = none
  n_repr : mg "repr" = none
  n_sorted : mg "sorted" = none
  n_str : mg "str" = none
  n_sum : mg "sum" = none
  n_tuple : mg "tuple" = none
  n_zip : mg "zip" = none
  k_LETTERS : ∃ t, mg "LETTERS" = some (.str "abcdefghijklmnopqrstuvwxyz" t)
  k_MAX_ENDS : ∃ t, mg "MAX_ENDS" = some (.int 3 t)
  k_MAX_LETTERS : ∃ t, mg "MAX_LETTERS" = some (.int 8 t)
  k_MAX_MOVES : ∃ t, mg "MAX_MOVES" = some (.int 12 t)
  k_MAX_POINTS : ∃ t, mg "MAX_POINTS" = some (.int 6 t)
  k_MAX_PROCEDURES : ∃ t, mg "MAX_PROCEDURES" = some (.int 4 t)
  k_MAX_SIZE : ∃ t, mg "MAX_SIZE" = some (.int 5 t)
  k_TOP : ∃ t, mg "TOP" = some (.int 10000000000000000000000000000000000000000 t)
  d_is_ascending : DefAt K mg "is_ascending" (top 15) ["items"]
  d_is_integer : DefAt K mg "is_integer" (top 13) ["value"]
  d_is_below : DefAt K mg "is_below" (top 14) ["value", "limit"]
  d_are_numbers : DefAt K mg "are_numbers" (top 16) ["value", "limit"]
  d_are_ends : DefAt K mg "are_ends" (top 25) ["value", "points"]
  d_is_name : DefAt K mg "is_name" (top 17) ["value"]
  d_is_table_row : DefAt K mg "is_table_row" (top 21) ["value"]
  d_is_move : DefAt K mg "is_move" (top 22) ["value", "points"]
  d_lengths_of : DefAt K mg "lengths_of" (top 23) ["moves"]
  d_are_moves : DefAt K mg "are_moves" (top 24) ["value", "points"]
  d_indices_at : DefAt K mg "indices_at" (top 26) ["moves", "point"]
  m_Procedure : DefAtC K mg "Procedure" "Procedure.__init__" (met 27 0) ["self", "called", "points", "moves", "ends"] 3 [] g_Procedure
  m_Procedure_ends : DefAtC K mg "Procedure" "Procedure.__init__" (met 27 0) ["self", "called", "points", "moves", "ends"] 3 ["ends"] g_Procedure_ends
  d_Procedure_U_lenU_ : DefAtM K "Procedure" "__len__" "Procedure.__len__" (met 27 6) ["self"]
  d_Procedure_U_strU_ : DefAtM K "Procedure" "__str__" "Procedure.__str__" (met 27 8) ["self"]
  d_Procedure_ends : DefAtP K "Procedure" "ends" "Procedure.ends" (met 27 4) "self"
  d_Program_U_containsU_ : DefAtM K "Program" "__contains__" "Program.__contains__" (met 29 17) ["self", "value"]
  d_require_procedure : DefAt K mg "require_procedure" (top 30) ["program", "name"]
  d_Program_U_getitemU_ : DefAtM K "Program" "__getitem__" "Program.__getitem__" (met 29 16) ["self", "name"]
  d_are_fitting : DefAt K mg "are_fitting" (top 28) ["size", "table"]
  m_Program : DefAtS K mg "Program" "Program.__init__" (met 29 0) ["self", "size", "starts", "procedures"] 1 [] g_Program
  m_Program_starts : DefAtS K mg "Program" "Program.__init__" (met 29 0) ["self", "size", "starts", "procedures"] 1 ["starts"] g_Program_starts
  d_Program_U_lenU_ : DefAtM K "Program" "__len__" "Program.__len__" (met 29 19) ["self"]
  d_Program_U_strU_ : DefAtM K "Program" "__str__" "Program.__str__" (met 29 21) ["self"]
  d_Program_names : DefAtP K "Program" "names" "Program.names" (met 29 5) "self"
  d_Program_size : DefAtP K "Program" "size" "Program.size" (met 29 2) "self"
  d_Program_starts : DefAtP K "Program" "starts" "Program.starts" (met 29 3) "self"
  d_Procedure_U_eqU_ : DefAtM K "Procedure" "__eq__" "Procedure.__eq__" (met 27 7) ["self", "other"]
  d_Program_U_eqU_ : DefAtM K "Program" "__eq__" "Program.__eq__" (met 29 20) ["self", "other"]
  d_Program_main : DefAtP K "Program" "main" "Program.main" (met 29 6) "self"
  k_Program_of_starts : DefAtK K mg "Program" "of" "Program.of" (met 29 1) ["cls", "size", "procedures", "starts"] 2 ["starts"] g_Program_of_starts
  d_Program_procedures : DefAtP K "Program" "procedures" "Program.procedures" (met 29 4) "self"
  d__law_procedure : DefAt K mg "_law_procedure" (top 39) ["plain", "name"]
  d__law_made : DefAt K mg "_law_made" (top 40) ["plain"]
  d__law_take : DefAt K mg "_law_take" (top 33) ["urn", "total"]
  d__law_one : DefAt K mg "_law_one" (top 34) ["urn", "items"]
  d__law_others : DefAt K mg "_law_others" (top 41) ["urn", "plain", "band"]
  d__law_entries : DefAt K mg "_law_entries" (top 36) ["urn", "size"]
  d__law_move : DefAt K mg "_law_move" (top 37) ["urn", "plain", "name"]
  d__law_some : DefAt K mg "_law_some" (top 35) ["urn", "items", "lots"]
  d__law_plain : DefAt K mg "_law_plain" (top 38) ["urn", "lots"]
  d__law_right : DefAt K mg "_law_right" (top 42) ["urn"]
  d__law_urn : DefAt K mg "_law_urn" (top 32) ["script", "at"]
  d_law : DefAt K mg "law" (top 43) ["script"]
  okf : ClsF K okf
  g_Procedure : mg "Procedure" = some (.ref (He.ga K "Procedure"))
  ct_Procedure : ClsT K "Procedure"
  g_Program : mg "Program" = some (.ref (He.ga K "Program"))
  ct_Program : ClsT K "Program"
  is_Procedure : IsF K own_cs "Procedure"
  is_Program : IsF K own_cs "Program"
  neF : NeF K a_U_eqU_
  nf : NfF K own_cs
  it_str : IsT K own_cs "str"
  s_U_containsU_ : ∀ c f g, a_U_containsU_.lookup c = some f → PySem.W.findIn K (.ref (He.ga K c)) "__contains__" = some (some (.ref g)) → PySem.W.fnIn K g = true
  s_U_getitemU_ : ∀ c f g, a_U_getitemU_.lookup c = some f → PySem.W.findIn K (.ref (He.ga K c)) "__getitem__" = some (some (.ref g)) → PySem.W.fnIn K g = true
  e_InvalidProgram : ExcAt K mg "InvalidProgram"
/-! the derivations -/
section
variable {P : Program} {w : World} {K : PySem.W.Frag} {mg : Str → Option Value} {base : Heap}
theorem z_is_ascending : FnScope ["items", "one", "other"] ["items"] (defScope (top 15)) := ⟨rfl, rfl, rfl, by decide +kernel, rfl, by decide +kernel, by decide +kernel⟩
theorem body_is_ascending (F : Fx K mg) {f : Addr} {cd : Value} {A : Around} {fr : List PySem.Env} {s : Shared} {H : Hp} {E : XK} (bd : Bd 0 (bX P w K mg base ["items", "one", "other"] "is_ascending" (top 15) f cd A fr s H E) (fun cls d _ H => E cls d H)) :
    PSsm (bX P w K mg base ["items", "one", "other"] "is_ascending" (top 15) f cd A fr s H E) (fun cls d _ H => E cls d H) (defBody (top 15)) b_is_ascending := by
  have hN := (z_is_ascending).nd
  have hu := bd.room.units
  unfold b_is_ascending
  exact (psm_one (psm_ret (pem_callB (cb_all rfl) (pam_cons (pem_lc (own := [(("one" : Str), 1), (("other" : Str), 2)]) rfl hN (blk_ok (by kernel_rfl)) (pim_zp (pam_cons (pem_var 0) (pam_cons (pem_sl (pem_var 0) (pom_at pem_int) pom_no) pam_nil)) (by rfl) F.n_zip) (fun _ _ _ _ _ => (pgm_tup rfl (pgsm_cons (pgm_name hN) (pgsm_cons (pgm_name hN) pgsm_nil)))) (fun _ _ _ _ _ => ptsm_nil) (fun _ _ _ _ _ => (pem_cmp or_lt (pem_var 1) (pem_var 2)))) pam_nil) (by rfl) F.n_all (by rfl))))
theorem c_is_ascending (F : Fx K mg) : Cal P w K mg base 1 "is_ascending" 1 f_is_ascending := cal_of F.d_is_ascending z_is_ascending fun f cd A fr s H E bd => body_is_ascending F bd
theorem z_is_integer : FnScope ["value"] ["value"] (defScope (top 13)) := ⟨rfl, rfl, rfl, by decide +kernel, rfl, by decide +kernel, by decide +kernel⟩
theorem body_is_integer (F : Fx K mg) {f : Addr} {cd : Value} {A : Around} {fr : List PySem.Env} {s : Shared} {H : Hp} {E : XK} (bd : Bd 0 (bX P w K mg base ["value"] "is_integer" (top 13) f cd A fr s H E) (fun cls d _ H => E cls d H)) :
    PSsm (bX P w K mg base ["value"] "is_integer" (top 13) f cd A fr s H E) (fun cls d _ H => E cls d H) (defBody (top 13)) b_is_integer := by
  have hN := (z_is_integer).nd
  have hu := bd.room.units
  unfold b_is_integer
  exact (psm_one (psm_ret (pem_and (pem_isi (pem_var 0) (by rfl) F.n_isinstance (by rfl) F.n_int (by rfl) kit_int) (pem_and (pem_not (pem_isi (pem_var 0) (by rfl) F.n_isinstance (by rfl) F.n_bool (by rfl) kit_bool)) (pem_one (pem_chain or_lt or_lt (pem_neg (pem_gI (by rfl) F.k_TOP)) (pem_var 0) (pem_gI (by rfl) F.k_TOP)))))))
theorem c_is_integer (F : Fx K mg) : Cal P w K mg base 1 "is_integer" 1 f_is_integer := cal_of F.d_is_integer z_is_integer fun f cd A fr s H E bd => body_is_integer F bd
theorem z_is_below : FnScope ["value", "limit"] ["value", "limit"] (defScope (top 14)) := ⟨rfl, rfl, rfl, by decide +kernel, rfl, by decide +kernel, by decide +kernel⟩
theorem body_is_below (F : Fx K mg) {f : Addr} {cd : Value} {A : Around} {fr : List PySem.Env} {s : Shared} {H : Hp} {E : XK} (bd : Bd 1 (bX P w K mg base ["value", "limit"] "is_below" (top 14) f cd A fr s H E) (fun cls d _ H => E cls d H)) :
    PSsm (bX P w K mg base ["value", "limit"] "is_below" (top 14) f cd A fr s H E) (fun cls d _ H => E cls d H) (defBody (top 14)) b_is_below := by
  have hN := (z_is_below).nd
  have hu := bd.room.units
  unfold b_is_below
  exact (psm_one (psm_ret (pem_and (pem_call (c_is_integer F) (bd.room.mono (by decide)) bd.gd (pass_tk bd.tk) (pam_cons (pem_var 0) pam_nil) (by rfl) (hlen := (len_cons len_nil))) (pem_one (pem_chain or_le or_lt pem_int (pem_var 0) (pem_var 1))))))
theorem c_is_below (F : Fx K mg) : Cal P w K mg base 2 "is_below" 2 f_is_below := cal_of F.d_is_below z_is_below fun f cd A fr s H E bd => body_is_below F bd
theorem z_are_numbers : FnScope ["value", "limit", "one"] ["value", "limit"] (defScope (top 16)) := ⟨rfl, rfl, rfl, by decide +kernel, rfl, by decide +kernel, by decide +kernel⟩
theorem body_are_numbers (F : Fx K mg) {f : Addr} {cd : Value} {A : Around} {fr : List PySem.Env} {s : Shared} {H : Hp} {E : XK} (bd : Bd 2 (bX P w K mg base ["value", "limit", "one"] "are_numbers" (top 16) f cd A fr s H E) (fun cls d _ H => E cls d H)) :
    PSsm (bX P w K mg base ["value", "limit", "one"] "are_numbers" (top 16) f cd A fr s H E) (fun cls d _ H => E cls d H) (defBody (top 16)) b_are_numbers := by
  have hN := (z_are_numbers).nd
  have hu := bd.room.units
  unfold b_are_numbers
  exact (psm_one (psm_ret (pem_and (pem_isi (pem_var 0) (by rfl) F.n_isinstance (by rfl) F.n_tuple (by rfl) kit_tuple) (pem_and (pem_callB (cb_all rfl) (pam_cons (pem_lc (own := [(("one" : Str), 2)]) rfl hN (blk_ok (by kernel_rfl)) (pim_tp (pem_var 0)) (fun _ _ _ _ _ => (pgm_name hN)) (fun _ _ _ _ _ => ptsm_nil) (fun _ _ _ _ _ => (pem_call (c_is_below F) (bd.room.mono (by decide)) bd.gd pass_0 (pam_cons (pem_var 2) (pam_cons (pem_var 1) pam_nil)) (by rfl) (hlen := (len_cons (len_cons len_nil)))))) pam_nil) (by rfl) F.n_all (by rfl)) (pem_one (pem_call (c_is_ascending F) (bd.room.mono (by decide)) bd.gd (pass_tk bd.tk) (pam_cons (pem_var 0) pam_nil) (by rfl) (hlen := (len_cons len_nil))))))))
theorem c_are_numbers (F : Fx K mg) : Cal P w K mg base 3 "are_numbers" 2 f_are_numbers := cal_of F.d_are_numbers z_are_numbers fun f cd A fr s H E bd => body_are_numbers F bd
theorem z_are_ends : FnScope ["value", "points"] ["value", "points"] (defScope (top 25)) := ⟨rfl, rfl, rfl, by decide +kernel, rfl, by decide +kernel, by decide +kernel⟩
theorem body_are_ends (F : Fx K mg) {f : Addr} {cd : Value} {A : Around} {fr : List PySem.Env} {s : Shared} {H : Hp} {E : XK} (bd : Bd 3 (bX P w K mg base ["value", "points"] "are_ends" (top 25) f cd A fr s H E) (fun cls d _ H => E cls d H)) :
    PSsm (bX P w K mg base ["value", "points"] "are_ends" (top 25) f cd A fr s H E) (fun cls d _ H => E cls d H) (defBody (top 25)) b_are_ends := by
  have hN := (z_are_ends).nd
  have hu := bd.room.units
  unfold b_are_ends
  exact (psm_one (psm_ret (pem_and (pem_call (c_are_numbers F) (bd.room.mono (by decide)) bd.gd (pass_tk bd.tk) (pam_cons (pem_var 0) (pam_cons (pem_var 1) pam_nil)) (by rfl) (hlen := (len_cons (len_cons len_nil)))) (pem_one (pem_cmp or_le (pem_callB cb_len (pam_cons (pem_var 0) pam_nil) (by rfl) F.n_len (by rfl)) (pem_gI (by rfl) F.k_MAX_ENDS))))))
theorem c_are_ends (F : Fx K mg) : Cal P w K mg base 4 "are_ends" 2 f_are_ends := cal_of F.d_are_ends z_are_ends fun f cd A fr s H E bd => body_are_ends F bd
theorem z_is_name : FnScope ["value", "letter"] ["value"] (defScope (top 17)) := ⟨rfl, rfl, rfl, by decide +kernel, rfl, by decide +kernel, by decide +kernel⟩
theorem body_is_name (F : Fx K mg) {f : Addr} {cd : Value} {A : Around} {fr : List PySem.Env} {s : Shared} {H : Hp} {E : XK} (bd : Bd 0 (bX P w K mg base ["value", "letter"] "is_name" (top 17) f cd A fr s H E) (fun cls d _ H => E cls d H)) :
    PSsm (bX P w K mg base ["value", "letter"] "is_name" (top 17) f cd A fr s H E) (fun cls d _ H => E cls d H) (defBody (top 17)) b_is_name := by
  have hN := (z_is_name).nd
  have hu := bd.room.units
  unfold b_is_name
  exact (psm_cons (psm_if (ptm_bool (pwm_or (ptm_not (ptm_val (pem_isi (pem_var 0) (by rfl) F.n_isinstance (by rfl) F.n_str (by rfl) kit_str))) (pwm_or1 (ptm_not (ptm_chain or_lt or_le pem_int (pem_callB cb_len (pam_cons (pem_var 0) pam_nil) (by rfl) F.n_len (by rfl)) (pem_gI (by rfl) F.k_MAX_LETTERS)))))) (psm_one (psm_ret pem_bl)) psm_nil)
    (psm_one (psm_ret (pem_callB (cb_all rfl) (pam_cons (pem_lc (own := [(("letter" : Str), 1)]) rfl hN (blk_ok (by kernel_rfl)) (pim_tx (pem_var 0)) (fun _ _ _ _ _ => (pgm_name hN)) (fun _ _ _ _ _ => ptsm_nil) (fun _ _ _ _ _ => (pem_cmp (or_in hu) (pem_var 1) (pem_gS (by rfl) F.k_LETTERS)))) pam_nil) (by rfl) F.n_all (by rfl)))))
theorem c_is_name (F : Fx K mg) : Cal P w K mg base 1 "is_name" 1 f_is_name := cal_of F.d_is_name z_is_name fun f cd A fr s H E bd => body_is_name F bd
theorem z_is_table_row : FnScope ["value", "entry"] ["value"] (defScope (top 21)) := ⟨rfl, rfl, rfl, by decide +kernel, rfl, by decide +kernel, by decide +kernel⟩
theorem body_is_table_row (F : Fx K mg) {f : Addr} {cd : Value} {A : Around} {fr : List PySem.Env} {s : Shared} {H : Hp} {E : XK} (bd : Bd 2 (bX P w K mg base ["value", "entry"] "is_table_row" (top 21) f cd A fr s H E) (fun cls d _ H => E cls d H)) :
    PSsm (bX P w K mg base ["value", "entry"] "is_table_row" (top 21) f cd A fr s H E) (fun cls d _ H => E cls d H) (defBody (top 21)) b_is_table_row := by
  have hN := (z_is_table_row).nd
  have hu := bd.room.units
  unfold b_is_table_row
  exact (psm_cons (psm_if (ptm_bool (pwm_or (ptm_not (ptm_val (pem_isi (pem_var 0) (by rfl) F.n_isinstance (by rfl) F.n_tuple (by rfl) kit_tuple))) (pwm_or1 (ptm_not (ptm_chain or_lt or_le pem_int (pem_callB cb_len (pam_cons (pem_var 0) pam_nil) (by rfl) F.n_len (by rfl)) (pem_gI (by rfl) F.k_MAX_SIZE)))))) (psm_one (psm_ret pem_bl)) psm_nil)
    (psm_one (psm_ret (pem_callB (cb_all rfl) (pam_cons (pem_lc (own := [(("entry" : Str), 1)]) rfl hN (blk_ok (by kernel_rfl)) (pim_tp (pem_var 0)) (fun _ _ _ _ _ => (pgm_name hN)) (fun _ _ _ _ _ => ptsm_nil) (fun _ _ _ _ _ => (pem_or (pem_cmp or_isN (pem_var 1) pem_non) (pem_one (pem_call (c_is_below F) (bd.room.mono (by decide)) bd.gd pass_0 (pam_cons (pem_var 1) (pam_cons (pem_callB cb_len (pam_cons (pem_var 0) pam_nil) (by rfl) F.n_len (by rfl)) pam_nil)) (by rfl) (hlen := (len_cons (len_cons len_nil)))))))) pam_nil) (by rfl) F.n_all (by rfl)))))
theorem c_is_table_row (F : Fx K mg) : Cal P w K mg base 3 "is_table_row" 1 f_is_table_row := cal_of F.d_is_table_row z_is_table_row fun f cd A fr s H E bd => body_is_table_row F bd
theorem z_is_move : FnScope ["value", "points", "here", "table", "there", "called"] ["value", "points"] (defScope (top 22)) := ⟨rfl, rfl, rfl, by decide +kernel, rfl, by decide +kernel, by decide +kernel⟩
theorem body_is_move (F : Fx K mg) {f : Addr} {cd : Value} {A : Around} {fr : List PySem.Env} {s : Shared} {H : Hp} {E : XK} (bd : Bd 3 (bX P w K mg base ["value", "points", "here", "table", "there", "called"] "is_move" (top 22) f cd A fr s H E) (fun cls d _ H => E cls d H)) :
    PSsm (bX P w K mg base ["value", "points", "here", "table", "there", "called"] "is_move" (top 22) f cd A fr s H E) (fun cls d _ H => E cls d H) (defBody (top 22)) b_is_move := by
  have hN := (z_is_move).nd
  have hu := bd.room.units
  unfold b_is_move
  exact (psm_cons (psm_if (ptm_bool (pwm_or (ptm_not (ptm_val (pem_isi (pem_var 0) (by rfl) F.n_isinstance (by rfl) F.n_tuple (by rfl) kit_tuple))) (pwm_or1 (ptm_cmp (or_ne hu) (pem_callB cb_len (pam_cons (pem_var 0) pam_nil) (by rfl) F.n_len (by rfl)) pem_int)))) (psm_one (psm_ret pem_bl)) psm_nil)
    (psm_cons (psm_if (ptm_bool (pwm_or (ptm_not (ptm_val (pem_call (c_is_below F) (bd.room.mono (by decide)) bd.gd (pass_tk bd.tk) (pam_cons (pem_ix (pem_var 0) pem_int) (pam_cons (pem_var 1) pam_nil)) (by rfl) (hlen := (len_cons (len_cons len_nil)))))) (pwm_or1 (ptm_not (ptm_val (pem_call (c_is_below F) (bd.room.mono (by decide)) bd.gd (pass_tk bd.tk) (pam_cons (pem_ix (pem_var 0) pem_int) (pam_cons (pem_var 1) pam_nil)) (by rfl) (hlen := (len_cons (len_cons len_nil))))))))) (psm_one (psm_ret pem_bl)) psm_nil)
    (psm_cons (psm_match (pem_var 0) (pcm_cons hN (ppm_seq rfl (ppsm_cons (ppm_str hu) (ppsm_cons ppm_cap (ppsm_cons ppm_cap (ppsm_cons ppm_cap ppsm_nil))))) (psm_one (psm_ret (pem_call (c_is_table_row F) (bd.room.mono (by decide)) bd.gd (pass_tk bd.tk) (pam_cons (pem_var 3) pam_nil) (by rfl) (hlen := (len_cons len_nil)))))
    (pcm_cons hN (ppm_seq rfl (ppsm_cons (ppm_str hu) (ppsm_cons ppm_cap (ppsm_cons ppm_cap (ppsm_cons ppm_cap ppsm_nil))))) (psm_one (psm_ret (pem_call (c_is_name F) (bd.room.mono (by decide)) bd.gd (pass_tk bd.tk) (pam_cons (pem_var 5) pam_nil) (by rfl) (hlen := (len_cons len_nil)))))
    pcm_nil)))
    (psm_one (psm_ret pem_bl)))))
theorem c_is_move (F : Fx K mg) : Cal P w K mg base 4 "is_move" 2 f_is_move := cal_of F.d_is_move z_is_move fun f cd A fr s H E bd => body_is_move F bd
theorem z_lengths_of : FnScope ["moves", "move"] ["moves"] (defScope (top 23)) := ⟨rfl, rfl, rfl, by decide +kernel, rfl, by decide +kernel, by decide +kernel⟩
theorem body_lengths_of (F : Fx K mg) {f : Addr} {cd : Value} {A : Around} {fr : List PySem.Env} {s : Shared} {H : Hp} {E : XK} (bd : Bd 0 (bX P w K mg base ["moves", "move"] "lengths_of" (top 23) f cd A fr s H E) (fun cls d _ H => E cls d H)) :
    PSsm (bX P w K mg base ["moves", "move"] "lengths_of" (top 23) f cd A fr s H E) (fun cls d _ H => E cls d H) (defBody (top 23)) b_lengths_of := by
  have hN := (z_lengths_of).nd
  have hu := bd.room.units
  unfold b_lengths_of
  exact (psm_one (psm_ret (pem_ssc (own := [(("move" : Str), 1)]) rfl hN (blk_ok (by kernel_rfl)) (pim_tp (pem_var 0)) (fun _ _ _ _ _ => (pgm_name hN)) (fun _ _ _ _ _ => (ptsm_one (ptm_cmp (or_eq hu) (pem_ix (pem_var 1) pem_int) pem_str))) (fun _ _ _ _ _ => (pem_callB cb_len (pam_cons (pem_ix (pem_var 1) pem_int) pam_nil) (by rfl) F.n_len (by rfl))) (by rfl) F.n_sorted)))
theorem c_lengths_of (F : Fx K mg) : Cal P w K mg base 1 "lengths_of" 1 f_lengths_of := cal_of F.d_lengths_of z_lengths_of fun f cd A fr s H E bd => body_lengths_of F bd
theorem z_are_moves : FnScope ["value", "points", "move"] ["value", "points"] (defScope (top 24)) := ⟨rfl, rfl, rfl, by decide +kernel, rfl, by decide +kernel, by decide +kernel⟩
theorem body_are_moves (F : Fx K mg) {f : Addr} {cd : Value} {A : Around} {fr : List PySem.Env} {s : Shared} {H : Hp} {E : XK} (bd : Bd 4 (bX P w K mg base ["value", "points", "move"] "are_moves" (top 24) f cd A fr s H E) (fun cls d _ H => E cls d H)) :
    PSsm (bX P w K mg base ["value", "points", "move"] "are_moves" (top 24) f cd A fr s H E) (fun cls d _ H => E cls d H) (defBody (top 24)) b_are_moves := by
  have hN := (z_are_moves).nd
  have hu := bd.room.units
  unfold b_are_moves
  exact (psm_cons (psm_if (ptm_bool (pwm_or (ptm_not (ptm_val (pem_isi (pem_var 0) (by rfl) F.n_isinstance (by rfl) F.n_tuple (by rfl) kit_tuple))) (pwm_or (ptm_cmp or_gt (pem_callB cb_len (pam_cons (pem_var 0) pam_nil) (by rfl) F.n_len (by rfl)) (pem_gI (by rfl) F.k_MAX_MOVES)) (pwm_or1 (ptm_not (ptm_val (pem_callB (cb_all rfl) (pam_cons (pem_lc (own := [(("move" : Str), 2)]) rfl hN (blk_ok (by kernel_rfl)) (pim_tp (pem_var 0)) (fun _ _ _ _ _ => (pgm_name hN)) (fun _ _ _ _ _ => ptsm_nil) (fun _ _ _ _ _ => (pem_call (c_is_move F) (bd.room.mono (by decide)) bd.gd pass_0 (pam_cons (pem_var 2) (pam_cons (pem_var 1) pam_nil)) (by rfl) (hlen := (len_cons (len_cons len_nil)))))) pam_nil) (by rfl) F.n_all (by rfl)))))))) (psm_one (psm_ret pem_bl)) psm_nil)
    (psm_one (psm_ret (pem_cmp or_le (pem_callB cb_len (pam_cons (pem_call (c_lengths_of F) (bd.room.mono (by decide)) bd.gd (pass_tk bd.tk) (pam_cons (pem_var 0) pam_nil) (by rfl) (hlen := (len_cons len_nil))) pam_nil) (by rfl) F.n_len (by rfl)) pem_int))))
theorem c_are_moves (F : Fx K mg) : Cal P w K mg base 5 "are_moves" 2 f_are_moves := cal_of F.d_are_moves z_are_moves fun f cd A fr s H E bd => body_are_moves F bd
theorem z_indices_at : FnScope ["moves", "point", "index", "move"] ["moves", "point"] (defScope (top 26)) := ⟨rfl, rfl, rfl, by decide +kernel, rfl, by decide +kernel, by decide +kernel⟩
theorem body_indices_at (F : Fx K mg) {f : Addr} {cd : Value} {A : Around} {fr : List PySem.Env} {s : Shared} {H : Hp} {E : XK} (bd : Bd 0 (bX P w K mg base ["moves", "point", "index", "move"] "indices_at" (top 26) f cd A fr s H E) (fun cls d _ H => E cls d H)) :
    PSsm (bX P w K mg base ["moves", "point", "index", "move"] "indices_at" (top 26) f cd A fr s H E) (fun cls d _ H => E cls d H) (defBody (top 26)) b_indices_at := by
  have hN := (z_indices_at).nd
  have hu := bd.room.units
  unfold b_indices_at
  exact (psm_one (psm_ret (pem_lc (own := [(("index" : Str), 2), (("move" : Str), 3)]) rfl hN (blk_ok (by kernel_rfl)) (pim_enT (pam_cons (pem_var 0) pam_nil) (by rfl) F.n_enumerate) (fun _ _ _ _ _ => (pgm_tup rfl (pgsm_cons (pgm_name hN) (pgsm_cons (pgm_name hN) pgsm_nil)))) (fun _ _ _ _ _ => (ptsm_one (ptm_cmp (or_eq hu) (pem_ix (pem_var 3) pem_int) (pem_var 1)))) (fun _ _ _ _ _ => (pem_var 2)))))
theorem c_indices_at (F : Fx K mg) : Cal P w K mg base 1 "indices_at" 2 f_indices_at := cal_of F.d_indices_at z_indices_at fun f cd A fr s H E bd => body_indices_at F bd
theorem z_Procedure_U_initU_ : FnScope ["self", "called", "points", "moves", "ends", "point"] ["self", "called", "points", "moves", "ends"] (defScope (met 27 0)) := ⟨rfl, rfl, rfl, by decide +kernel, rfl, by decide +kernel, by decide +kernel⟩
theorem body_Procedure_U_initU_ (F : Fx K mg) {f : Addr} {cd : Value} {A : Around} {fr : List PySem.Env} {s : Shared} {H : Hp} {E : XK} (bd : Bd 5 (bX P w K mg base ["self", "called", "points", "moves", "ends", "point"] "Procedure.__init__" (met 27 0) f cd A fr s H E) (fun cls d _ H => E cls d H)) :
    PSsm (bX P w K mg base ["self", "called", "points", "moves", "ends", "point"] "Procedure.__init__" (met 27 0) f cd A fr s H E) (fun cls d _ H => E cls d H) (defBody (met 27 0)) b_Procedure_U_initU_ := by
  have hN := (z_Procedure_U_initU_).nd
  have hu := bd.room.units
  unfold b_Procedure_U_initU_
  exact (psm_cons (psm_if (ptm_bool (pwm_or (ptm_not (ptm_val (pem_call (c_is_name F) (bd.room.mono (by decide)) bd.gd (pass_tk bd.tk) (pam_cons (pem_var 1) pam_nil) (by rfl) (hlen := (len_cons len_nil))))) (pwm_or (ptm_not (ptm_val (pem_call (c_is_below F) (bd.room.mono (by decide)) bd.gd (pass_tk bd.tk) (pam_cons (pem_var 2) (pam_cons (pem_op or_add (pem_gI (by rfl) F.k_MAX_POINTS) pem_int) pam_nil)) (by rfl) (hlen := (len_cons (len_cons len_nil)))))) (pwm_or1 (ptm_cmp (or_eq hu) (pem_var 2) pem_int))))) (psm_one (psm_raise1 F.e_InvalidProgram rfl bd.tk (by rfl))) psm_nil)
    (psm_cons (psm_if (ptm_not (ptm_val (pem_call (c_are_moves F) (bd.room.mono (by decide)) bd.gd (pass_tk bd.tk) (pam_cons (pem_var 3) (pam_cons (pem_var 2) pam_nil)) (by rfl) (hlen := (len_cons (len_cons len_nil)))))) (psm_one (psm_raise1 F.e_InvalidProgram rfl bd.tk (by rfl))) psm_nil)
    (psm_cons (psm_if (ptm_not (ptm_val (pem_call (c_are_ends F) (bd.room.mono (by decide)) bd.gd (pass_tk bd.tk) (pam_cons (pem_var 4) (pam_cons (pem_var 2) pam_nil)) (by rfl) (hlen := (len_cons (len_cons len_nil)))))) (psm_one (psm_raise1 F.e_InvalidProgram rfl bd.tk (by rfl))) psm_nil)
    (psm_cons (psm_fldI F.okf (pem_var 0) (pem_var 1))
    (psm_cons (psm_fldI F.okf (pem_var 0) (pem_var 2))
    (psm_cons (psm_fldI F.okf (pem_var 0) (pem_var 3))
    (psm_cons (psm_fldI F.okf (pem_var 0) (pem_var 4))
    (psm_cons (psm_fldI F.okf (pem_var 0) (pem_callTy ct_tuple (pam_cons (pem_lc (own := [(("point" : Str), 5)]) rfl hN (blk_ok (by kernel_rfl)) (pim_rg1 (pam_cons (pem_var 2) pam_nil) (by rfl) F.n_range) (fun _ _ _ _ _ => (pgm_name hN)) (fun _ _ _ _ _ => ptsm_nil) (fun _ _ _ _ _ => (pem_callTy ct_tuple (pam_cons (pem_call (c_indices_at F) (bd.room.mono (by decide)) bd.gd pass_0 (pam_cons (pem_var 3) (pam_cons (pem_var 5) pam_nil)) (by rfl) (hlen := (len_cons (len_cons len_nil)))) pam_nil) (by rfl) F.n_tuple (by rfl)))) pam_nil) (by rfl) F.n_tuple (by rfl)))
    (psm_one (psm_fldI F.okf (pem_var 0) (pem_tup (pam_cons (pem_var 1) (pam_cons (pem_var 2) (pam_cons (pem_var 3) (pam_cons (pem_var 4) pam_nil)))))))))))))))
theorem cc_Procedure (F : Fx K mg) : CalC P w K mg base 6 "Procedure" 3 [] g_Procedure f_Procedure_U_initU_ := calC_of F.m_Procedure z_Procedure_U_initU_ fun f cd A fr s H E bd => body_Procedure_U_initU_ F bd
theorem cc_Procedure_ends (F : Fx K mg) : CalC P w K mg base 6 "Procedure" 3 ["ends"] g_Procedure_ends f_Procedure_U_initU_ := calC_of F.m_Procedure_ends z_Procedure_U_initU_ fun f cd A fr s H E bd => body_Procedure_U_initU_ F bd
theorem z_Procedure_U_lenU_ : FnScope ["self"] ["self"] (defScope (met 27 6)) := ⟨rfl, rfl, rfl, by decide +kernel, rfl, by decide +kernel, by decide +kernel⟩
theorem body_Procedure_U_lenU_ (F : Fx K mg) {f : Addr} {cd : Value} {A : Around} {fr : List PySem.Env} {s : Shared} {H : Hp} {E : XK} (bd : Bd 0 (bX P w K mg base ["self"] "Procedure.__len__" (met 27 6) f cd A fr s H E) (fun cls d _ H => E cls d H)) :
    PSsm (bX P w K mg base ["self"] "Procedure.__len__" (met 27 6) f cd A fr s H E) (fun cls d _ H => E cls d H) (defBody (met 27 6)) b_Procedure_U_lenU_ := by
  have hN := (z_Procedure_U_lenU_).nd
  have hu := bd.room.units
  unfold b_Procedure_U_lenU_
  exact (psm_one (psm_ret (pem_callB cb_len (pam_cons (pem_fld F.okf (pem_var 0)) pam_nil) (by rfl) F.n_len (by rfl))))
theorem c_Procedure_U_lenU_ (F : Fx K mg) : CalM P w K mg base 1 "Procedure" "__len__" 1 f_Procedure_U_lenU_ := calM_of F.d_Procedure_U_lenU_ z_Procedure_U_lenU_ fun f cd A fr s H E bd => body_Procedure_U_lenU_ F bd
theorem z_Procedure_U_strU_ : FnScope ["self"] ["self"] (defScope (met 27 8)) := ⟨rfl, rfl, rfl, by decide +kernel, rfl, by decide +kernel, by decide +kernel⟩
theorem body_Procedure_U_strU_ (F : Fx K mg) {f : Addr} {cd : Value} {A : Around} {fr : List PySem.Env} {s : Shared} {H : Hp} {E : XK} (bd : Bd 0 (bX P w K mg base ["self"] "Procedure.__str__" (met 27 8) f cd A fr s H E) (fun cls d _ H => E cls d H)) :
    PSsm (bX P w K mg base ["self"] "Procedure.__str__" (met 27 8) f cd A fr s H E) (fun cls d _ H => E cls d H) (defBody (met 27 8)) b_Procedure_U_strU_ := by
  have hN := (z_Procedure_U_strU_).nd
  have hu := bd.room.units
  unfold b_Procedure_U_strU_
  exact (psm_one (psm_ret (pem_js (.cons pem_str (.cons (pem_fmt (pem_fld F.okf (pem_var 0))) (.cons pem_str (.cons (pem_fmt (pem_fld F.okf (pem_var 0))) (.cons pem_str (.cons (pem_fmt (pem_callB cb_len (pam_cons (pem_fld F.okf (pem_var 0)) pam_nil) (by rfl) F.n_len (by rfl))) (.cons pem_str .nil))))))))))
theorem c_Procedure_U_strU_ (F : Fx K mg) : CalM P w K mg base 1 "Procedure" "__str__" 1 f_Procedure_U_strU_ := calM_of F.d_Procedure_U_strU_ z_Procedure_U_strU_ fun f cd A fr s H E bd => body_Procedure_U_strU_ F bd
theorem z_Procedure_ends : FnScope ["self"] ["self"] (defScope (met 27 4)) := ⟨rfl, rfl, rfl, by decide +kernel, rfl, by decide +kernel, by decide +kernel⟩
theorem body_Procedure_ends (F : Fx K mg) {f : Addr} {cd : Value} {A : Around} {fr : List PySem.Env} {s : Shared} {H : Hp} {E : XK} (bd : Bd 0 (bX P w K mg base ["self"] "Procedure.ends" (met 27 4) f cd A fr s H E) (fun cls d _ H => E cls d H)) :
    PSsm (bX P w K mg base ["self"] "Procedure.ends" (met 27 4) f cd A fr s H E) (fun cls d _ H => E cls d H) (defBody (met 27 4)) b_Procedure_ends := by
  have hN := (z_Procedure_ends).nd
  have hu := bd.room.units
  unfold b_Procedure_ends
  exact (psm_one (psm_ret (pem_fld F.okf (pem_var 0))))
theorem c_Procedure_ends (F : Fx K mg) : CalP P w K mg base 1 "Procedure" "ends" f_Procedure_ends := calP_of F.d_Procedure_ends z_Procedure_ends fun f cd A fr s H E bd => body_Procedure_ends F bd
theorem ca_ends (F : Fx K mg) : ∀ c f, a_ends.lookup c = some f → CalP P w K mg base 1 c "ends" f := (alts_cons ((c_Procedure_ends F).mono (by decide)) alts_nil)
theorem z_Program_U_containsU_ : FnScope ["self", "value"] ["self", "value"] (defScope (met 29 17)) := ⟨rfl, rfl, rfl, by decide +kernel, rfl, by decide +kernel, by decide +kernel⟩
theorem body_Program_U_containsU_ (F : Fx K mg) {f : Addr} {cd : Value} {A : Around} {fr : List PySem.Env} {s : Shared} {H : Hp} {E : XK} (bd : Bd 0 (bX P w K mg base ["self", "value"] "Program.__contains__" (met 29 17) f cd A fr s H E) (fun cls d _ H => E cls d H)) :
    PSsm (bX P w K mg base ["self", "value"] "Program.__contains__" (met 29 17) f cd A fr s H E) (fun cls d _ H => E cls d H) (defBody (met 29 17)) b_Program_U_containsU_ := by
  have hN := (z_Program_U_containsU_).nd
  have hu := bd.room.units
  unfold b_Program_U_containsU_
  exact (psm_one (psm_ret (pem_and (pem_isO F.it_str (pem_var 1) (by rfl) F.n_isinstance (by rfl) F.n_str (by rfl) kit_str) (pem_one (pem_inD hu (pem_var 1) (pem_fld F.okf (pem_var 0)))))))
theorem c_Program_U_containsU_ (F : Fx K mg) : CalM P w K mg base 1 "Program" "__contains__" 2 f_Program_U_containsU_ := calM_of F.d_Program_U_containsU_ z_Program_U_containsU_ fun f cd A fr s H E bd => body_Program_U_containsU_ F bd
theorem ca_U_containsU_ (F : Fx K mg) : ∀ c f, a_U_containsU_.lookup c = some f → CalM P w K mg base 1 c "__contains__" 2 f := (alts_cons ((c_Program_U_containsU_ F).mono (by decide)) alts_nil)
theorem sF_U_containsU_ (F : Fx K mg) : SubF P w K mg base 1 "__contains__" a_U_containsU_ := ⟨ca_U_containsU_ F, F.s_U_containsU_⟩
theorem z_require_procedure : FnScope ["program", "name"] ["program", "name"] (defScope (top 30)) := ⟨rfl, rfl, rfl, by decide +kernel, rfl, by decide +kernel, by decide +kernel⟩
theorem body_require_procedure (F : Fx K mg) {f : Addr} {cd : Value} {A : Around} {fr : List PySem.Env} {s : Shared} {H : Hp} {E : XK} (bd : Bd 4 (bX P w K mg base ["program", "name"] "require_procedure" (top 30) f cd A fr s H E) (fun cls d _ H => E cls d H)) :
    PSsm (bX P w K mg base ["program", "name"] "require_procedure" (top 30) f cd A fr s H E) (fun cls d _ H => E cls d H) (defBody (top 30)) b_require_procedure := by
  have hN := (z_require_procedure).nd
  have hu := bd.room.units
  unfold b_require_procedure
  exact (psm_one (psm_if (ptm_cmp (or_notInO (sF_U_containsU_ F) (bd.room.mono (by decide)) bd.gd) (pem_var 1) (pem_var 0)) (psm_one psm_no) psm_nil))
theorem c_require_procedure (F : Fx K mg) : Cal P w K mg base 5 "require_procedure" 2 f_require_procedure := cal_of F.d_require_procedure z_require_procedure fun f cd A fr s H E bd => body_require_procedure F bd
theorem z_Program_U_getitemU_ : FnScope ["self", "name"] ["self", "name"] (defScope (met 29 16)) := ⟨rfl, rfl, rfl, by decide +kernel, rfl, by decide +kernel, by decide +kernel⟩
theorem body_Program_U_getitemU_ (F : Fx K mg) {f : Addr} {cd : Value} {A : Around} {fr : List PySem.Env} {s : Shared} {H : Hp} {E : XK} (bd : Bd 5 (bX P w K mg base ["self", "name"] "Program.__getitem__" (met 29 16) f cd A fr s H E) (fun cls d _ H => E cls d H)) :
    PSsm (bX P w K mg base ["self", "name"] "Program.__getitem__" (met 29 16) f cd A fr s H E) (fun cls d _ H => E cls d H) (defBody (met 29 16)) b_Program_U_getitemU_ := by
  have hN := (z_Program_U_getitemU_).nd
  have hu := bd.room.units
  unfold b_Program_U_getitemU_
  exact (psm_cons (psm_exp (pem_call (c_require_procedure F) (bd.room.mono (by decide)) bd.gd (pass_tk bd.tk) (pam_cons (pem_var 0) (pam_cons (pem_var 1) pam_nil)) (by rfl) (hlen := (len_cons (len_cons len_nil)))))
    (psm_one (psm_ret (pem_dgt hu (pem_fld F.okf (pem_var 0)) (pem_var 1)))))
theorem c_Program_U_getitemU_ (F : Fx K mg) : CalM P w K mg base 6 "Program" "__getitem__" 2 f_Program_U_getitemU_ := calM_of F.d_Program_U_getitemU_ z_Program_U_getitemU_ fun f cd A fr s H E bd => body_Program_U_getitemU_ F bd
theorem ca_U_getitemU_ (F : Fx K mg) : ∀ c f, a_U_getitemU_.lookup c = some f → CalM P w K mg base 6 c "__getitem__" 2 f := (alts_cons ((c_Program_U_getitemU_ F).mono (by decide)) alts_nil)
theorem sF_U_getitemU_ (F : Fx K mg) : SubF P w K mg base 6 "__getitem__" a_U_getitemU_ := ⟨ca_U_getitemU_ F, F.s_U_getitemU_⟩
theorem z_are_fitting : FnScope ["size", "table", "procedure", "move"] ["size", "table"] (defScope (top 28)) := ⟨rfl, rfl, rfl, by decide +kernel, rfl, by decide +kernel, by decide +kernel⟩
theorem body_are_fitting (F : Fx K mg) {f : Addr} {cd : Value} {A : Around} {fr : List PySem.Env} {s : Shared} {H : Hp} {E : XK} (bd : Bd 1 (bX P w K mg base ["size", "table", "procedure", "move"] "are_fitting" (top 28) f cd A fr s H E) (fun cls d _ H => E cls d H)) :
    PSsm (bX P w K mg base ["size", "table", "procedure", "move"] "are_fitting" (top 28) f cd A fr s H E) (fun cls d _ H => E cls d H) (defBody (top 28)) b_are_fitting := by
  have hN := (z_are_fitting).nd
  have hu := bd.room.units
  unfold b_are_fitting
  exact (psm_cons (psm_for bd.po rfl (pim_vl (pem_var 1)) (pgm_name hN) (psm_cons (psm_if (ptm_cmp (or_notIn hu) (pem_call (c_lengths_of F) (bd.room.mono (by decide)) bd.gd (pass_tk bd.tk) (pam_cons (pem_fld F.okf (pem_var 2)) pam_nil) (by rfl) (hlen := (len_cons len_nil))) (pem_tup (pam_cons (pem_lst pam_nil) (pam_cons (pem_lst (pam_cons (pem_var 0) pam_nil)) pam_nil)))) (psm_one (psm_ret pem_bl)) psm_nil)
    (psm_one (psm_if (ptm_not (ptm_val (pem_callB (cb_all rfl) (pam_cons (pem_lc (own := [(("move" : Str), 3)]) rfl hN (blk_ok (by kernel_rfl)) (pim_tp (pem_fld F.okf (pem_var 2))) (fun _ _ _ _ _ => (pgm_name hN)) (fun _ _ _ _ _ => (ptsm_one (ptm_cmp (or_eq hu) (pem_ix (pem_var 3) pem_int) pem_str))) (fun _ _ _ _ _ => (pem_inD hu (pem_ix (pem_var 3) pem_int) (pem_var 1)))) pam_nil) (by rfl) F.n_all (by rfl)))) (psm_one (psm_ret pem_bl)) psm_nil))))
    (psm_one (psm_ret pem_bl)))
theorem c_are_fitting (F : Fx K mg) : Cal P w K mg base 2 "are_fitting" 2 f_are_fitting := cal_of F.d_are_fitting z_are_fitting fun f cd A fr s H E bd => body_are_fitting F bd
theorem z_Program_U_initU_ : FnScope ["self", "size", "starts", "procedures", "one"] ["self", "size", "starts", "procedures"] (defScope (met 29 0)) := ⟨rfl, rfl, rfl, by decide +kernel, rfl, by decide +kernel, by decide +kernel⟩
theorem body_Program_U_initU_ (F : Fx K mg) {f : Addr} {cd : Value} {A : Around} {fr : List PySem.Env} {s : Shared} {H : Hp} {E : XK} (bd : Bd 3 (bX P w K mg base ["self", "size", "starts", "procedures", "one"] "Program.__init__" (met 29 0) f cd A fr s H E) (fun cls d _ H => E cls d H)) :
    PSsm (bX P w K mg base ["self", "size", "starts", "procedures", "one"] "Program.__init__" (met 29 0) f cd A fr s H E) (fun cls d _ H => E cls d H) (defBody (met 29 0)) b_Program_U_initU_ := by
  have hN := (z_Program_U_initU_).nd
  have hu := bd.room.units
  unfold b_Program_U_initU_
  exact (psm_cons (psm_if (ptm_bool (pwm_or (ptm_not (ptm_val (pem_call (c_is_below F) (bd.room.mono (by decide)) bd.gd (pass_tk bd.tk) (pam_cons (pem_var 1) (pam_cons (pem_op or_add (pem_gI (by rfl) F.k_MAX_SIZE) pem_int) pam_nil)) (by rfl) (hlen := (len_cons (len_cons len_nil)))))) (pwm_or1 (ptm_cmp (or_eq hu) (pem_var 1) pem_int)))) (psm_one (psm_raise1 F.e_InvalidProgram rfl bd.tk (by rfl))) psm_nil)
    (psm_cons (psm_if (ptm_bool (pwm_or (ptm_not (ptm_chain or_lt or_le pem_int (pem_callB cb_len (pam_cons (pem_var 3) pam_nil) (by rfl) F.n_len (by rfl)) (pem_gI (by rfl) F.k_MAX_PROCEDURES))) (pwm_or1 (ptm_not (ptm_val (pem_callB (cb_all rfl) (pam_cons (pem_lc (own := [(("one" : Str), 4)]) rfl hN (blk_ok (by kernel_rfl)) (pim_tp (pem_var 3)) (fun _ _ _ _ _ => (pgm_name hN)) (fun _ _ _ _ _ => ptsm_nil) (fun _ _ _ _ _ => (pem_isC F.is_Procedure (pem_var 4) (by rfl) F.n_isinstance (by rfl) F.g_Procedure))) pam_nil) (by rfl) F.n_all (by rfl))))))) (psm_one (psm_raise1 F.e_InvalidProgram rfl bd.tk (by rfl))) psm_nil)
    (psm_cons (psm_if (ptm_bool (pwm_or (ptm_not (ptm_val (pem_call (c_are_numbers F) (bd.room.mono (by decide)) bd.gd (pass_tk bd.tk) (pam_cons (pem_var 2) (pam_cons (pem_var 1) pam_nil)) (by rfl) (hlen := (len_cons (len_cons len_nil)))))) (pwm_or1 (ptm_cmp (or_eq hu) (pem_var 2) (pem_tup pam_nil))))) (psm_one (psm_raise1 F.e_InvalidProgram rfl bd.tk (by rfl))) psm_nil)
    (psm_cons (psm_fldI F.okf (pem_var 0) (pem_var 1))
    (psm_cons (psm_fldI F.okf (pem_var 0) (pem_var 2))
    (psm_cons (psm_fldI F.okf (pem_var 0) (pem_var 3))
    (psm_cons (psm_fldI F.okf (pem_var 0) (pem_dcF rfl hN (own := [(("one" : Str), 4)]) (blk_ok (by kernel_rfl)) (pim_tp (pem_var 3)) (fun _ _ _ _ _ => (pgm_name hN)) (fun _ _ _ _ _ => ptsm_nil) (fun _ _ _ _ _ => (pem_fld F.okf (pem_var 4))) (fun _ _ _ _ _ => (pem_var 4))))
    (psm_cons (psm_fldI F.okf (pem_var 0) (pem_fld F.okf (pem_ix (pem_var 3) pem_int)))
    (psm_cons (psm_if (ptm_bool (pwm_or (ptm_cmp (or_ne hu) (pem_callB cb_lenD (pam_cons (pem_fld F.okf (pem_var 0)) pam_nil) (by rfl) F.n_len (by rfl)) (pem_callB cb_len (pam_cons (pem_var 3) pam_nil) (by rfl) F.n_len (by rfl))) (pwm_or1 (ptm_not (ptm_val (pem_call (c_are_fitting F) (bd.room.mono (by decide)) bd.gd (pass_tk bd.tk) (pam_cons (pem_var 1) (pam_cons (pem_fld F.okf (pem_var 0)) pam_nil)) (by rfl) (hlen := (len_cons (len_cons len_nil))))))))) (psm_one (psm_raise1 F.e_InvalidProgram rfl bd.tk (by rfl))) psm_nil)
    (psm_cons (psm_fldI F.okf (pem_var 0) pem_dctF)
    (psm_one (psm_fldI F.okf (pem_var 0) (pem_tup (pam_cons (pem_var 1) (pam_cons (pem_var 2) (pam_cons (pem_var 3) pam_nil))))))))))))))))
theorem cc_Program (F : Fx K mg) : CalS P w K mg base 4 "Program" 1 [] g_Program f_Program_U_initU_ := calS_of F.m_Program z_Program_U_initU_ fun f cd A fr s H E bd => body_Program_U_initU_ F bd
theorem cc_Program_starts (F : Fx K mg) : CalS P w K mg base 4 "Program" 1 ["starts"] g_Program_starts f_Program_U_initU_ := calS_of F.m_Program_starts z_Program_U_initU_ fun f cd A fr s H E bd => body_Program_U_initU_ F bd
theorem z_Program_U_lenU_ : FnScope ["self"] ["self"] (defScope (met 29 19)) := ⟨rfl, rfl, rfl, by decide +kernel, rfl, by decide +kernel, by decide +kernel⟩
theorem body_Program_U_lenU_ (F : Fx K mg) {f : Addr} {cd : Value} {A : Around} {fr : List PySem.Env} {s : Shared} {H : Hp} {E : XK} (bd : Bd 0 (bX P w K mg base ["self"] "Program.__len__" (met 29 19) f cd A fr s H E) (fun cls d _ H => E cls d H)) :
    PSsm (bX P w K mg base ["self"] "Program.__len__" (met 29 19) f cd A fr s H E) (fun cls d _ H => E cls d H) (defBody (met 29 19)) b_Program_U_lenU_ := by
  have hN := (z_Program_U_lenU_).nd
  have hu := bd.room.units
  unfold b_Program_U_lenU_
  exact (psm_one (psm_ret (pem_callB cb_len (pam_cons (pem_fld F.okf (pem_var 0)) pam_nil) (by rfl) F.n_len (by rfl))))
theorem c_Program_U_lenU_ (F : Fx K mg) : CalM P w K mg base 1 "Program" "__len__" 1 f_Program_U_lenU_ := calM_of F.d_Program_U_lenU_ z_Program_U_lenU_ fun f cd A fr s H E bd => body_Program_U_lenU_ F bd
theorem ca_U_lenU_ (F : Fx K mg) : ∀ c f, a_U_lenU_.lookup c = some f → CalM P w K mg base 1 c "__len__" 1 f := (alts_cons ((c_Procedure_U_lenU_ F).mono (by decide)) (alts_cons ((c_Program_U_lenU_ F).mono (by decide)) alts_nil))
theorem z_Program_U_strU_ : FnScope ["self", "many", "one"] ["self"] (defScope (met 29 21)) := ⟨rfl, rfl, rfl, by decide +kernel, rfl, by decide +kernel, by decide +kernel⟩
theorem body_Program_U_strU_ (F : Fx K mg) {f : Addr} {cd : Value} {A : Around} {fr : List PySem.Env} {s : Shared} {H : Hp} {E : XK} (bd : Bd 4 (bX P w K mg base ["self", "many", "one"] "Program.__str__" (met 29 21) f cd A fr s H E) (fun cls d _ H => E cls d H)) :
    PSsm (bX P w K mg base ["self", "many", "one"] "Program.__str__" (met 29 21) f cd A fr s H E) (fun cls d _ H => E cls d H) (defBody (met 29 21)) b_Program_U_strU_ := by
  have hN := (z_Program_U_strU_).nd
  have hu := bd.room.units
  unfold b_Program_U_strU_
  exact (psm_cons (psm_asg (pem_callB (cb_sum rfl) (pam_cons (pem_lc (own := [(("one" : Str), 2)]) rfl hN (blk_ok (by kernel_rfl)) (pim_tp (pem_fld F.okf (pem_var 0))) (fun _ _ _ _ _ => (pgm_name hN)) (fun _ _ _ _ _ => ptsm_nil) (fun _ _ _ _ _ => (pem_callB (cb_lenO (ca_U_lenU_ F) (bd.room.mono (by decide)) bd.gd) (pam_cons (pem_var 2) pam_nil) (by rfl) F.n_len (by rfl)))) pam_nil) (by rfl) F.n_sum (by rfl)) (pgm_name hN))
    (psm_one (psm_ret (pem_js (.cons pem_str (.cons (pem_fmt (pem_callB cb_len (pam_cons (pem_fld F.okf (pem_var 0)) pam_nil) (by rfl) F.n_len (by rfl))) (.cons pem_str (.cons (pem_fmt (pem_var 1)) (.cons pem_str (.cons (pem_fmt (pem_fld F.okf (pem_var 0))) (.cons pem_str .nil)))))))))))
theorem c_Program_U_strU_ (F : Fx K mg) : CalM P w K mg base 5 "Program" "__str__" 1 f_Program_U_strU_ := calM_of F.d_Program_U_strU_ z_Program_U_strU_ fun f cd A fr s H E bd => body_Program_U_strU_ F bd
theorem ca_U_strU_ (F : Fx K mg) : ∀ c f, a_U_strU_.lookup c = some f → CalM P w K mg base 5 c "__str__" 1 f := (alts_cons ((c_Procedure_U_strU_ F).mono (by decide)) (alts_cons ((c_Program_U_strU_ F).mono (by decide)) alts_nil))
theorem z_Program_names : FnScope ["self"] ["self"] (defScope (met 29 5)) := ⟨rfl, rfl, rfl, by decide +kernel, rfl, by decide +kernel, by decide +kernel⟩
theorem body_Program_names (F : Fx K mg) {f : Addr} {cd : Value} {A : Around} {fr : List PySem.Env} {s : Shared} {H : Hp} {E : XK} (bd : Bd 0 (bX P w K mg base ["self"] "Program.names" (met 29 5) f cd A fr s H E) (fun cls d _ H => E cls d H)) :
    PSsm (bX P w K mg base ["self"] "Program.names" (met 29 5) f cd A fr s H E) (fun cls d _ H => E cls d H) (defBody (met 29 5)) b_Program_names := by
  have hN := (z_Program_names).nd
  have hu := bd.room.units
  unfold b_Program_names
  exact (psm_one (psm_ret (pem_callTy ct_tuple (pam_cons (pem_callTy (cb_lsD rfl) (pam_cons (pem_fld F.okf (pem_var 0)) pam_nil) (by rfl) F.n_list (by rfl)) pam_nil) (by rfl) F.n_tuple (by rfl))))
theorem c_Program_names (F : Fx K mg) : CalP P w K mg base 1 "Program" "names" f_Program_names := calP_of F.d_Program_names z_Program_names fun f cd A fr s H E bd => body_Program_names F bd
theorem ca_names (F : Fx K mg) : ∀ c f, a_names.lookup c = some f → CalP P w K mg base 1 c "names" f := (alts_cons ((c_Program_names F).mono (by decide)) alts_nil)
theorem z_Program_size : FnScope ["self"] ["self"] (defScope (met 29 2)) := ⟨rfl, rfl, rfl, by decide +kernel, rfl, by decide +kernel, by decide +kernel⟩
theorem body_Program_size (F : Fx K mg) {f : Addr} {cd : Value} {A : Around} {fr : List PySem.Env} {s : Shared} {H : Hp} {E : XK} (bd : Bd 0 (bX P w K mg base ["self"] "Program.size" (met 29 2) f cd A fr s H E) (fun cls d _ H => E cls d H)) :
    PSsm (bX P w K mg base ["self"] "Program.size" (met 29 2) f cd A fr s H E) (fun cls d _ H => E cls d H) (defBody (met 29 2)) b_Program_size := by
  have hN := (z_Program_size).nd
  have hu := bd.room.units
  unfold b_Program_size
  exact (psm_one (psm_ret (pem_fld F.okf (pem_var 0))))
theorem c_Program_size (F : Fx K mg) : CalP P w K mg base 1 "Program" "size" f_Program_size := calP_of F.d_Program_size z_Program_size fun f cd A fr s H E bd => body_Program_size F bd
theorem ca_size (F : Fx K mg) : ∀ c f, a_size.lookup c = some f → CalP P w K mg base 1 c "size" f := (alts_cons ((c_Program_size F).mono (by decide)) alts_nil)
theorem z_Program_starts : FnScope ["self"] ["self"] (defScope (met 29 3)) := ⟨rfl, rfl, rfl, by decide +kernel, rfl, by decide +kernel, by decide +kernel⟩
theorem body_Program_starts (F : Fx K mg) {f : Addr} {cd : Value} {A : Around} {fr : List PySem.Env} {s : Shared} {H : Hp} {E : XK} (bd : Bd 0 (bX P w K mg base ["self"] "Program.starts" (met 29 3) f cd A fr s H E) (fun cls d _ H => E cls d H)) :
    PSsm (bX P w K mg base ["self"] "Program.starts" (met 29 3) f cd A fr s H E) (fun cls d _ H => E cls d H) (defBody (met 29 3)) b_Program_starts := by
  have hN := (z_Program_starts).nd
  have hu := bd.room.units
  unfold b_Program_starts
  exact (psm_one (psm_ret (pem_fld F.okf (pem_var 0))))
theorem c_Program_starts (F : Fx K mg) : CalP P w K mg base 1 "Program" "starts" f_Program_starts := calP_of F.d_Program_starts z_Program_starts fun f cd A fr s H E bd => body_Program_starts F bd
theorem ca_starts (F : Fx K mg) : ∀ c f, a_starts.lookup c = some f → CalP P w K mg base 1 c "starts" f := (alts_cons ((c_Program_starts F).mono (by decide)) alts_nil)
theorem z_Procedure_U_eqU_ : FnScope ["self", "other"] ["self", "other"] (defScope (met 27 7)) := ⟨rfl, rfl, rfl, by decide +kernel, rfl, by decide +kernel, by decide +kernel⟩
theorem body_Procedure_U_eqU_ (F : Fx K mg) {f : Addr} {cd : Value} {A : Around} {fr : List PySem.Env} {s : Shared} {H : Hp} {E : XK} (bd : Bd 0 (bX P w K mg base ["self", "other"] "Procedure.__eq__" (met 27 7) f cd A fr s H E) (fun cls d _ H => E cls d H)) :
    PSsm (bX P w K mg base ["self", "other"] "Procedure.__eq__" (met 27 7) f cd A fr s H E) (fun cls d _ H => E cls d H) (defBody (met 27 7)) b_Procedure_U_eqU_ := by
  have hN := (z_Procedure_U_eqU_).nd
  have hu := bd.room.units
  unfold b_Procedure_U_eqU_
  exact (psm_one (psm_ret (pem_and (pem_isC F.is_Procedure (pem_var 1) (by rfl) F.n_isinstance (by rfl) F.g_Procedure) (pem_one (pem_cmp (or_eq hu) (pem_fld F.okf (pem_var 0)) (pem_fld F.okf (pem_var 1)))))))
theorem c_Procedure_U_eqU_ (F : Fx K mg) : CalM P w K mg base 1 "Procedure" "__eq__" 2 f_Procedure_U_eqU_ := calM_of F.d_Procedure_U_eqU_ z_Procedure_U_eqU_ fun f cd A fr s H E bd => body_Procedure_U_eqU_ F bd
theorem qF_Procedure (F : Fx K mg) : EqF P w K mg base 1 q_Procedure := eqF_mk (alts_cons ((c_Procedure_U_eqU_ F).mono (by decide)) alts_nil) (alts_cons F.ct_Procedure alts_nil)
theorem z_Program_U_eqU_ : FnScope ["self", "other"] ["self", "other"] (defScope (met 29 20)) := ⟨rfl, rfl, rfl, by decide +kernel, rfl, by decide +kernel, by decide +kernel⟩
theorem body_Program_U_eqU_ (F : Fx K mg) {f : Addr} {cd : Value} {A : Around} {fr : List PySem.Env} {s : Shared} {H : Hp} {E : XK} (bd : Bd 13 (bX P w K mg base ["self", "other"] "Program.__eq__" (met 29 20) f cd A fr s H E) (fun cls d _ H => E cls d H)) :
    PSsm (bX P w K mg base ["self", "other"] "Program.__eq__" (met 29 20) f cd A fr s H E) (fun cls d _ H => E cls d H) (defBody (met 29 20)) b_Program_U_eqU_ := by
  have hN := (z_Program_U_eqU_).nd
  have hu := bd.room.units
  have hu2 := Room.u2 bd.room
  unfold b_Program_U_eqU_
  exact (psm_one (psm_ret (pem_and (pem_isC F.is_Program (pem_var 1) (by rfl) F.n_isinstance (by rfl) F.g_Program) (pem_one (pem_cmp (or_eqD hu2 (qF_Procedure F) (bd.room.mono (by decide)) bd.gd) (pem_fld F.okf (pem_var 0)) (pem_fld F.okf (pem_var 1)))))))
theorem c_Program_U_eqU_ (F : Fx K mg) : CalM P w K mg base 14 "Program" "__eq__" 2 f_Program_U_eqU_ := calM_of F.d_Program_U_eqU_ z_Program_U_eqU_ fun f cd A fr s H E bd => body_Program_U_eqU_ F bd
theorem ca_U_eqU_ (F : Fx K mg) : ∀ c f, a_U_eqU_.lookup c = some f → CalM P w K mg base 14 c "__eq__" 2 f := (alts_cons ((c_Procedure_U_eqU_ F).mono (by decide)) (alts_cons ((c_Program_U_eqU_ F).mono (by decide)) alts_nil))
theorem eqF (F : Fx K mg) : EqF P w K mg base 14 a_U_eqU_ := eqF_mk (ca_U_eqU_ F) (alts_cons F.ct_Procedure (alts_cons F.ct_Program alts_nil))
theorem z_Program_main : FnScope ["self"] ["self"] (defScope (met 29 6)) := ⟨rfl, rfl, rfl, by decide +kernel, rfl, by decide +kernel, by decide +kernel⟩
theorem body_Program_main (F : Fx K mg) {f : Addr} {cd : Value} {A : Around} {fr : List PySem.Env} {s : Shared} {H : Hp} {E : XK} (bd : Bd 0 (bX P w K mg base ["self"] "Program.main" (met 29 6) f cd A fr s H E) (fun cls d _ H => E cls d H)) :
    PSsm (bX P w K mg base ["self"] "Program.main" (met 29 6) f cd A fr s H E) (fun cls d _ H => E cls d H) (defBody (met 29 6)) b_Program_main := by
  have hN := (z_Program_main).nd
  have hu := bd.room.units
  unfold b_Program_main
  exact (psm_one (psm_ret (pem_fld F.okf (pem_var 0))))
theorem c_Program_main (F : Fx K mg) : CalP P w K mg base 1 "Program" "main" f_Program_main := calP_of F.d_Program_main z_Program_main fun f cd A fr s H E bd => body_Program_main F bd
theorem ca_main (F : Fx K mg) : ∀ c f, a_main.lookup c = some f → CalP P w K mg base 1 c "main" f := (alts_cons ((c_Program_main F).mono (by decide)) alts_nil)
theorem z_Program_of : FnScope ["cls", "size", "procedures", "starts"] ["cls", "size", "procedures", "starts"] (defScope (met 29 1)) := ⟨rfl, rfl, rfl, by decide +kernel, rfl, by decide +kernel, by decide +kernel⟩
theorem body_Program_of (F : Fx K mg) {f : Addr} {cd : Value} {A : Around} {fr : List PySem.Env} {s : Shared} {H : Hp} {E : XK} (bd : Bd 7 (bX P w K mg base ["cls", "size", "procedures", "starts"] "Program.of" (met 29 1) f cd A fr s H E) (fun cls d _ H => E cls d H)) :
    PSsm (bX P w K mg base ["cls", "size", "procedures", "starts"] "Program.of" (met 29 1) f cd A fr s H E) (fun cls d _ H => E cls d H) (defBody (met 29 1)) b_Program_of := by
  have hN := (z_Program_of).nd
  have hu := bd.room.units
  unfold b_Program_of
  exact (psm_cons (psm_if (ptm_not (ptm_val (pem_isi (pem_var 2) (by rfl) F.n_isinstance (by rfl) F.n_tuple (by rfl) kit_tuple))) (psm_one (psm_raise1 F.e_InvalidProgram rfl bd.tk (by rfl))) psm_nil)
    (psm_one (psm_ret (pem_clS (cc_Program_starts F) (bd.room.mono (by decide)) bd.gd (pass_tk bd.tk) (pem_var 0) (pam_cons (pem_var 1) (pam_star (pem_var 2) pam_nil)) (pkm_cons (pem_var 3) pkm_nil) (by exact (len_cons len_nil))))))
theorem ck_Program_of_starts (F : Fx K mg) : CalK P w K mg base 8 "Program" "of" 2 ["starts"] g_Program_of_starts f_Program_of := calK_of F.k_Program_of_starts z_Program_of fun f cd A fr s H E bd => body_Program_of F bd
theorem z_Program_procedures : FnScope ["self"] ["self"] (defScope (met 29 4)) := ⟨rfl, rfl, rfl, by decide +kernel, rfl, by decide +kernel, by decide +kernel⟩
theorem body_Program_procedures (F : Fx K mg) {f : Addr} {cd : Value} {A : Around} {fr : List PySem.Env} {s : Shared} {H : Hp} {E : XK} (bd : Bd 0 (bX P w K mg base ["self"] "Program.procedures" (met 29 4) f cd A fr s H E) (fun cls d _ H => E cls d H)) :
    PSsm (bX P w K mg base ["self"] "Program.procedures" (met 29 4) f cd A fr s H E) (fun cls d _ H => E cls d H) (defBody (met 29 4)) b_Program_procedures := by
  have hN := (z_Program_procedures).nd
  have hu := bd.room.units
  unfold b_Program_procedures
  exact (psm_one (psm_ret (pem_fld F.okf (pem_var 0))))
theorem c_Program_procedures (F : Fx K mg) : CalP P w K mg base 1 "Program" "procedures" f_Program_procedures := calP_of F.d_Program_procedures z_Program_procedures fun f cd A fr s H E bd => body_Program_procedures F bd
theorem ca_procedures (F : Fx K mg) : ∀ c f, a_procedures.lookup c = some f → CalP P w K mg base 1 c "procedures" f := (alts_cons ((c_Program_procedures F).mono (by decide)) alts_nil)
theorem z__law_procedure : FnScope ["plain", "name", "moves"] ["plain", "name"] (defScope (top 39)) := ⟨rfl, rfl, rfl, by decide +kernel, rfl, by decide +kernel, by decide +kernel⟩
theorem body__law_procedure (F : Fx K mg) {f : Addr} {cd : Value} {A : Around} {fr : List PySem.Env} {s : Shared} {H : Hp} {E : XK} (bd : Bd 9 (bX P w K mg base ["plain", "name", "moves"] "_law_procedure" (top 39) f cd A fr s H E) (fun cls d _ H => E cls d H)) :
    PSsm (bX P w K mg base ["plain", "name", "moves"] "_law_procedure" (top 39) f cd A fr s H E) (fun cls d _ H => E cls d H) (defBody (top 39)) b__law_procedure := by
  have hN := (z__law_procedure).nd
  have hu := bd.room.units
  unfold b__law_procedure
  exact (psm_cons (psm_asg (pem_callTy ct_tuple (pam_cons (pem_dgt hu (pem_dgt hu (pem_var 0) pem_str) (pem_var 1)) pam_nil) (by rfl) F.n_tuple (by rfl)) (pgm_name hN))
    (psm_one (psm_ret (pem_mkK (cc_Procedure_ends F) (bd.room.mono (by decide)) bd.gd (pass_tk bd.tk) (pam_cons (pem_var 1) (pam_cons (pem_dgt hu (pem_dgt hu (pem_var 0) pem_str) (pem_var 1)) (pam_cons (pem_var 2) pam_nil))) (pkm_cons (pem_dgt hu (pem_dgt hu (pem_var 0) pem_str) (pem_var 1)) pkm_nil) (by exact (len_cons (len_cons (len_cons len_nil)))) (by exact (len_cons len_nil)) (by rfl)))))
theorem c__law_procedure (F : Fx K mg) : Cal P w K mg base 10 "_law_procedure" 2 f__law_procedure := cal_of F.d__law_procedure z__law_procedure fun f cd A fr s H E bd => body__law_procedure F bd
theorem z__law_made : FnScope ["plain", "band", "name"] ["plain"] (defScope (top 40)) := ⟨rfl, rfl, rfl, by decide +kernel, rfl, by decide +kernel, by decide +kernel⟩
theorem body__law_made (F : Fx K mg) {f : Addr} {cd : Value} {A : Around} {fr : List PySem.Env} {s : Shared} {H : Hp} {E : XK} (bd : Bd 11 (bX P w K mg base ["plain", "band", "name"] "_law_made" (top 40) f cd A fr s H E) (fun cls d _ H => E cls d H)) :
    PSsm (bX P w K mg base ["plain", "band", "name"] "_law_made" (top 40) f cd A fr s H E) (fun cls d _ H => E cls d H) (defBody (top 40)) b__law_made := by
  have hN := (z__law_made).nd
  have hu := bd.room.units
  unfold b__law_made
  exact (psm_cons (psm_asg (pem_callTy ct_tuple (pam_cons (pem_lc (own := [(("name" : Str), 2)]) rfl hN (blk_ok (by kernel_rfl)) (pim_ls (pem_dgt hu (pem_var 0) pem_str)) (fun _ _ _ _ _ => (pgm_name hN)) (fun _ _ _ _ _ => ptsm_nil) (fun _ _ _ _ _ => (pem_call (c__law_procedure F) (bd.room.mono (by decide)) bd.gd pass_0 (pam_cons (pem_var 0) (pam_cons (pem_var 2) pam_nil)) (by rfl) (hlen := (len_cons (len_cons len_nil)))))) pam_nil) (by rfl) F.n_tuple (by rfl)) (pgm_name hN))
    (psm_one (psm_ret (pem_cmK (ck_Program_of_starts F) (bd.room.mono (by decide)) bd.gd (pass_tk bd.tk) (pam_cons (pem_dgt hu (pem_var 0) pem_str) (pam_cons (pem_var 1) pam_nil)) (pkm_cons (pem_dgt hu (pem_var 0) pem_str) pkm_nil) (by exact (len_cons (len_cons len_nil))) (by exact (len_cons len_nil)) (by rfl)))))
theorem c__law_made (F : Fx K mg) : Cal P w K mg base 12 "_law_made" 1 f__law_made := cal_of F.d__law_made z__law_made fun f cd A fr s H E bd => body__law_made F bd
theorem z__law_take : FnScope ["urn", "total", "found", "one", "two", "three"] ["urn", "total"] (defScope (top 33)) := ⟨rfl, rfl, rfl, by decide +kernel, rfl, by decide +kernel, by decide +kernel⟩
theorem body__law_take (F : Fx K mg) {f : Addr} {cd : Value} {A : Around} {fr : List PySem.Env} {s : Shared} {H : Hp} {E : XK} (bd : Bd 0 (bX P w K mg base ["urn", "total", "found", "one", "two", "three"] "_law_take" (top 33) f cd A fr s H E) (fun cls d _ H => E cls d H)) :
    PSsm (bX P w K mg base ["urn", "total", "found", "one", "two", "three"] "_law_take" (top 33) f cd A fr s H E) (fun cls d _ H => E cls d H) (defBody (top 33)) b__law_take := by
  have hN := (z__law_take).nd
  have hu := bd.room.units
  unfold b__law_take
  exact (psm_cons (psm_if (ptm_cmp or_gt (pem_ix (pem_var 0) pem_int) pem_int) (psm_cons (psm_asg (pem_op or_mod (pem_callTy ct_int (pam_cons (pem_ix (pem_var 0) pem_int) pam_nil) (by rfl) F.n_int (by rfl)) (pem_var 1)) (pgm_name hN))
    (psm_cons (psm_asg (pem_op or_fdv (pem_ix (pem_var 0) pem_int) (pem_var 1)) (pgm_sub (pem_var 0) pem_int))
    (psm_one (psm_ret (pem_var 2))))) psm_nil)
    (psm_cons (psm_asg (pem_op or_add (pem_ix (pem_var 0) pem_int) pem_int) (pgm_sub (pem_var 0) pem_int))
    (psm_cons (psm_asg (pem_op or_mod (pem_callTy ct_int (pam_cons (pem_op or_add (pem_ix (pem_var 0) pem_int) (pem_op or_mul pem_int (pem_ix (pem_var 0) pem_int))) pam_nil) (by rfl) F.n_int (by rfl)) pem_int) (pgm_name hN))
    (psm_cons (psm_asg (pem_op or_mod (pem_callTy ct_int (pam_cons (pem_op or_add (pem_op or_mul (pem_var 3) (pem_var 3)) (pem_op or_mul pem_int (pem_ix (pem_var 0) pem_int))) pam_nil) (by rfl) F.n_int (by rfl)) pem_int) (pgm_name hN))
    (psm_cons (psm_asg (pem_op or_mod (pem_callTy ct_int (pam_cons (pem_op or_add (pem_op or_mul (pem_var 4) (pem_var 4)) (pem_var 3)) pam_nil) (by rfl) F.n_int (by rfl)) pem_int) (pgm_name hN))
    (psm_one (psm_ret (pem_op or_mod (pem_callTy ct_int (pam_cons (pem_op or_fdv (pem_var 5) pem_int) pam_nil) (by rfl) F.n_int (by rfl)) (pem_var 1)))))))))
theorem c__law_take (F : Fx K mg) : Cal P w K mg base 1 "_law_take" 2 f__law_take := cal_of F.d__law_take z__law_take fun f cd A fr s H E bd => body__law_take F bd
theorem z__law_one : FnScope ["urn", "items"] ["urn", "items"] (defScope (top 34)) := ⟨rfl, rfl, rfl, by decide +kernel, rfl, by decide +kernel, by decide +kernel⟩
theorem body__law_one (F : Fx K mg) {f : Addr} {cd : Value} {A : Around} {fr : List PySem.Env} {s : Shared} {H : Hp} {E : XK} (bd : Bd 1 (bX P w K mg base ["urn", "items"] "_law_one" (top 34) f cd A fr s H E) (fun cls d _ H => E cls d H)) :
    PSsm (bX P w K mg base ["urn", "items"] "_law_one" (top 34) f cd A fr s H E) (fun cls d _ H => E cls d H) (defBody (top 34)) b__law_one := by
  have hN := (z__law_one).nd
  have hu := bd.room.units
  unfold b__law_one
  exact (psm_one (psm_ret (pem_ix (pem_var 1) (pem_call (c__law_take F) (bd.room.mono (by decide)) bd.gd (pass_tk bd.tk) (pam_cons (pem_var 0) (pam_cons (pem_callB cb_len (pam_cons (pem_var 1) pam_nil) (by rfl) F.n_len (by rfl)) pam_nil)) (by rfl) (hlen := (len_cons (len_cons len_nil)))))))
theorem c__law_one (F : Fx K mg) : Cal P w K mg base 2 "_law_one" 2 f__law_one := cal_of F.d__law_one z__law_one fun f cd A fr s H E bd => body__law_one F bd
theorem z__law_others : FnScope ["urn", "plain", "band", "size", "firsts", "found", "number", "changed", "other", "moves"] ["urn", "plain", "band"] (defScope (top 41)) := ⟨rfl, rfl, rfl, by decide +kernel, rfl, by decide +kernel, by decide +kernel⟩
theorem body__law_others (F : Fx K mg) {f : Addr} {cd : Value} {A : Around} {fr : List PySem.Env} {s : Shared} {H : Hp} {E : XK} (bd : Bd 12 (bX P w K mg base ["urn", "plain", "band", "size", "firsts", "found", "number", "changed", "other", "moves"] "_law_others" (top 41) f cd A fr s H E) (fun cls d _ H => E cls d H)) :
    PSsm (bX P w K mg base ["urn", "plain", "band", "size", "firsts", "found", "number", "changed", "other", "moves"] "_law_others" (top 41) f cd A fr s H E) (fun cls d _ H => E cls d H) (defBody (top 41)) b__law_others := by
  have hN := (z__law_others).nd
  have hu := bd.room.units
  unfold b__law_others
  exact (psm_cons (psm_par2 rfl hN (pam_cons (pem_dgt hu (pem_var 1) pem_str) (pam_cons (pem_dgt hu (pem_var 1) pem_str) pam_nil)))
    (psm_cons (psm_asg (pem_lst (pam_cons pem_non (pam_cons (pem_callTy ct_tuple (pam_cons (pem_var 2) pam_nil) (by rfl) F.n_tuple (by rfl)) (pam_cons (pem_dgt hu (pem_var 1) pem_str) (pam_cons (pem_dgt hu (pem_var 1) pem_str) (pam_cons pem_int (pam_cons (pem_ix (pem_var 2) pem_int) pam_nil))))))) (pgm_name hN))
    (psm_cons (psm_if (ptm_cmp or_gt (pem_callB cb_len (pam_cons (pem_var 2) pam_nil) (by rfl) F.n_len (by rfl)) pem_int) (psm_one (psm_exp (pem_append (pem_var 5) (pam_cons (pem_cmK (ck_Program_of_starts F) (bd.room.mono (by decide)) bd.gd (pass_tk bd.tk) (pam_cons (pem_var 3) (pam_cons (pem_callTy ct_tuple (pam_cons (pem_revL (pem_var 2)) pam_nil) (by rfl) F.n_tuple (by rfl)) pam_nil)) (pkm_cons (pem_var 4) pkm_nil) (by exact (len_cons (len_cons len_nil))) (by exact (len_cons len_nil)) (by rfl)) pam_nil)))) psm_nil)
    (psm_cons (psm_for bd.po rfl (pim_rg1 (pam_cons (pem_var 3) pam_nil) (by rfl) F.n_range) (pgm_name hN) (psm_one (psm_if (ptm_cmp (or_ne hu) (pem_tup (pam_cons (pem_var 6) pam_nil)) (pem_var 4)) (psm_one (psm_exp (pem_append (pem_var 5) (pam_cons (pem_cmK (ck_Program_of_starts F) (bd.room.mono (by decide)) bd.gd (pass_tk bd.tk) (pam_cons (pem_var 3) (pam_cons (pem_callTy ct_tuple (pam_cons (pem_var 2) pam_nil) (by rfl) F.n_tuple (by rfl)) pam_nil)) (pkm_cons (pem_tup (pam_cons (pem_var 6) pam_nil)) pkm_nil) (by exact (len_cons (len_cons len_nil))) (by exact (len_cons len_nil)) (by rfl)) pam_nil)))) psm_nil)))
    (psm_cons (psm_asg (pem_call (c__law_one F) (bd.room.mono (by decide)) bd.gd (pass_tk bd.tk) (pam_cons (pem_var 0) (pam_cons (pem_dgt hu (pem_var 1) pem_str) pam_nil)) (by rfl) (hlen := (len_cons (len_cons len_nil)))) (pgm_name hN))
    (psm_cons (psm_par2 rfl hN (pam_cons (pem_callTy (cb_dct rfl) (pam_cons (pem_lsI rfl (pem_var 1) (by rfl) F.n_list (by rfl)) pam_nil) (by rfl) F.n_dict (by rfl)) (pam_cons (pem_callTy (cb_dct rfl) (pam_cons (pem_lsI rfl (pem_dgt hu (pem_var 1) pem_str) (by rfl) F.n_list (by rfl)) pam_nil) (by rfl) F.n_dict (by rfl)) pam_nil)))
    (psm_cons (psm_dpt hu (pem_var 9) (pem_var 7) (pem_op or_add (pem_dgt hu (pem_var 9) (pem_var 7)) (pem_lst (pam_cons (pem_tup (pam_cons pem_str (pam_cons pem_int (pam_cons pem_str (pam_cons pem_int pam_nil))))) pam_nil))))
    (psm_cons (psm_dpt hu (pem_var 8) pem_str (pem_var 9))
    (psm_one (psm_ret (pem_op or_add (pem_var 5) (pem_lst (pam_cons (pem_call (c__law_made F) (bd.room.mono (by decide)) bd.gd (pass_tk bd.tk) (pam_cons (pem_var 8) pam_nil) (by rfl) (hlen := (len_cons len_nil))) pam_nil)))))))))))))
theorem c__law_others (F : Fx K mg) : Cal P w K mg base 13 "_law_others" 3 f__law_others := cal_of F.d__law_others z__law_others fun f cd A fr s H E bd => body__law_others F bd
theorem z__law_entries : FnScope ["urn", "size", "turn"] ["urn", "size"] (defScope (top 36)) := ⟨rfl, rfl, rfl, by decide +kernel, rfl, by decide +kernel, by decide +kernel⟩
theorem body__law_entries (F : Fx K mg) {f : Addr} {cd : Value} {A : Around} {fr : List PySem.Env} {s : Shared} {H : Hp} {E : XK} (bd : Bd 1 (bX P w K mg base ["urn", "size", "turn"] "_law_entries" (top 36) f cd A fr s H E) (fun cls d _ H => E cls d H)) :
    PSsm (bX P w K mg base ["urn", "size", "turn"] "_law_entries" (top 36) f cd A fr s H E) (fun cls d _ H => E cls d H) (defBody (top 36)) b__law_entries := by
  have hN := (z__law_entries).nd
  have hu := bd.room.units
  unfold b__law_entries
  exact (psm_one (psm_ret (pem_callTy ct_tuple (pam_cons (pem_lc (own := [(("turn" : Str), 2)]) rfl hN (blk_ok (by kernel_rfl)) (pim_rg1 (pam_cons (pem_var 1) pam_nil) (by rfl) F.n_range) (fun _ _ _ _ _ => (pgm_name hN)) (fun _ _ _ _ _ => ptsm_nil) (fun _ _ _ _ _ => (pem_if (ptm_cmp (or_eq hu) (pem_call (c__law_take F) (bd.room.mono (by decide)) bd.gd pass_0 (pam_cons (pem_var 0) (pam_cons pem_int pam_nil)) (by rfl) (hlen := (len_cons (len_cons len_nil)))) pem_int) pem_non (pem_call (c__law_take F) (bd.room.mono (by decide)) bd.gd pass_0 (pam_cons (pem_var 0) (pam_cons (pem_var 1) pam_nil)) (by rfl) (hlen := (len_cons (len_cons len_nil))))))) pam_nil) (by rfl) F.n_tuple (by rfl))))
theorem c__law_entries (F : Fx K mg) : Cal P w K mg base 2 "_law_entries" 2 f__law_entries := cal_of F.d__law_entries z__law_entries fun f cd A fr s H E bd => body__law_entries F bd
theorem z__law_move : FnScope ["urn", "plain", "name", "points", "here", "there"] ["urn", "plain", "name"] (defScope (top 37)) := ⟨rfl, rfl, rfl, by decide +kernel, rfl, by decide +kernel, by decide +kernel⟩
theorem body__law_move (F : Fx K mg) {f : Addr} {cd : Value} {A : Around} {fr : List PySem.Env} {s : Shared} {H : Hp} {E : XK} (bd : Bd 2 (bX P w K mg base ["urn", "plain", "name", "points", "here", "there"] "_law_move" (top 37) f cd A fr s H E) (fun cls d _ H => E cls d H)) :
    PSsm (bX P w K mg base ["urn", "plain", "name", "points", "here", "there"] "_law_move" (top 37) f cd A fr s H E) (fun cls d _ H => E cls d H) (defBody (top 37)) b__law_move := by
  have hN := (z__law_move).nd
  have hu := bd.room.units
  unfold b__law_move
  exact (psm_cons (psm_asg (pem_dgt hu (pem_dgt hu (pem_var 1) pem_str) (pem_var 2)) (pgm_name hN))
    (psm_cons (psm_par2 rfl hN (pam_cons (pem_call (c__law_take F) (bd.room.mono (by decide)) bd.gd (pass_tk bd.tk) (pam_cons (pem_var 0) (pam_cons (pem_var 3) pam_nil)) (by rfl) (hlen := (len_cons (len_cons len_nil)))) (pam_cons (pem_call (c__law_take F) (bd.room.mono (by decide)) bd.gd (pass_tk bd.tk) (pam_cons (pem_var 0) (pam_cons (pem_var 3) pam_nil)) (by rfl) (hlen := (len_cons (len_cons len_nil)))) pam_nil)))
    (psm_cons (psm_if (ptm_cmp or_lt (pem_call (c__law_take F) (bd.room.mono (by decide)) bd.gd (pass_tk bd.tk) (pam_cons (pem_var 0) (pam_cons pem_int pam_nil)) (by rfl) (hlen := (len_cons (len_cons len_nil)))) pem_int) (psm_one (psm_ret (pem_tup (pam_cons pem_str (pam_cons (pem_var 4) (pam_cons (pem_call (c__law_entries F) (bd.room.mono (by decide)) bd.gd (pass_tk bd.tk) (pam_cons (pem_var 0) (pam_cons (pem_dgt hu (pem_var 1) pem_str) pam_nil)) (by rfl) (hlen := (len_cons (len_cons len_nil)))) (pam_cons (pem_var 5) pam_nil))))))) psm_nil)
    (psm_one (psm_ret (pem_tup (pam_cons pem_str (pam_cons (pem_var 4) (pam_cons (pem_call (c__law_one F) (bd.room.mono (by decide)) bd.gd (pass_tk bd.tk) (pam_cons (pem_var 0) (pam_cons (pem_dgt hu (pem_var 1) pem_str) pam_nil)) (by rfl) (hlen := (len_cons (len_cons len_nil)))) (pam_cons (pem_var 5) pam_nil))))))))))
theorem c__law_move (F : Fx K mg) : Cal P w K mg base 3 "_law_move" 3 f__law_move := cal_of F.d__law_move z__law_move fun f cd A fr s H E bd => body__law_move F bd
theorem z__law_some : FnScope ["urn", "items", "lots", "stock", "found", "turn"] ["urn", "items", "lots"] (defScope (top 35)) := ⟨rfl, rfl, rfl, by decide +kernel, rfl, by decide +kernel, by decide +kernel⟩
theorem body__law_some (F : Fx K mg) {f : Addr} {cd : Value} {A : Around} {fr : List PySem.Env} {s : Shared} {H : Hp} {E : XK} (bd : Bd 1 (bX P w K mg base ["urn", "items", "lots", "stock", "found", "turn"] "_law_some" (top 35) f cd A fr s H E) (fun cls d _ H => E cls d H)) :
    PSsm (bX P w K mg base ["urn", "items", "lots", "stock", "found", "turn"] "_law_some" (top 35) f cd A fr s H E) (fun cls d _ H => E cls d H) (defBody (top 35)) b__law_some := by
  have hN := (z__law_some).nd
  have hu := bd.room.units
  unfold b__law_some
  exact (psm_cons (psm_par2 rfl hN (pam_cons (pem_callTy ct_list (pam_cons (pem_var 1) pam_nil) (by rfl) F.n_list (by rfl)) (pam_cons (pem_lst pam_nil) pam_nil)))
    (psm_cons (psm_for bd.po rfl (pim_rg1 (pam_cons (pem_callB (cb_min rfl) (pam_cons (pem_var 2) (pam_cons (pem_callB cb_len (pam_cons (pem_var 1) pam_nil) (by rfl) F.n_len (by rfl)) pam_nil)) (by rfl) F.n_min (by rfl)) pam_nil) (by rfl) F.n_range) (pgm_name hN) (psm_one (psm_exp (pem_append (pem_var 4) (pam_cons (pem_pop (pem_var 3) (pam_cons (pem_call (c__law_take F) (bd.room.mono (by decide)) bd.gd (pass_tk bd.tk) (pam_cons (pem_var 0) (pam_cons (pem_callB cb_len (pam_cons (pem_var 3) pam_nil) (by rfl) F.n_len (by rfl)) pam_nil)) (by rfl) (hlen := (len_cons (len_cons len_nil)))) pam_nil)) pam_nil)))))
    (psm_one (psm_ret (pem_var 4)))))
theorem c__law_some (F : Fx K mg) : Cal P w K mg base 2 "_law_some" 3 f__law_some := cal_of F.d__law_some z__law_some fun f cd A fr s H E bd => body__law_some F bd
theorem z__law_plain : FnScope ["urn", "lots", "size", "plain", "name", "points", "turn", "key"] ["urn", "lots"] (defScope (top 38)) := ⟨rfl, rfl, rfl, by decide +kernel, rfl, by decide +kernel, by decide +kernel⟩
theorem body__law_plain (F : Fx K mg) {f : Addr} {cd : Value} {A : Around} {fr : List PySem.Env} {s : Shared} {H : Hp} {E : XK} (bd : Bd 3 (bX P w K mg base ["urn", "lots", "size", "plain", "name", "points", "turn", "key"] "_law_plain" (top 38) f cd A fr s H E) (fun cls d _ H => E cls d H)) :
    PSsm (bX P w K mg base ["urn", "lots", "size", "plain", "name", "points", "turn", "key"] "_law_plain" (top 38) f cd A fr s H E) (fun cls d _ H => E cls d H) (defBody (top 38)) b__law_plain := by
  have hN := (z__law_plain).nd
  have hu := bd.room.units
  unfold b__law_plain
  exact (psm_cons (psm_asg (pem_call (c__law_one F) (bd.room.mono (by decide)) bd.gd (pass_tk bd.tk) (pam_cons (pem_var 0) (pam_cons (pem_lst (pam_cons pem_int (pam_cons pem_int (pam_cons pem_int (pam_cons pem_int (pam_cons pem_int (pam_cons pem_int pam_nil))))))) pam_nil)) (by rfl) (hlen := (len_cons (len_cons len_nil)))) (pgm_name hN))
    (psm_cons (psm_asg (pem_dsp (.cons pem_str (pem_var 2) (.cons pem_str (pem_op or_add (pem_lst (pam_cons pem_str pam_nil)) (pem_call (c__law_some F) (bd.room.mono (by decide)) bd.gd (pass_tk bd.tk) (pam_cons (pem_var 0) (pam_cons (pem_lst (pam_cons pem_str (pam_cons pem_str (pam_cons pem_str pam_nil)))) (pam_cons (pem_call (c__law_take F) (bd.room.mono (by decide)) bd.gd (pass_tk bd.tk) (pam_cons (pem_var 0) (pam_cons (pem_var 1) pam_nil)) (by rfl) (hlen := (len_cons (len_cons len_nil)))) pam_nil))) (by rfl) (hlen := (len_cons (len_cons (len_cons len_nil)))))) .nil))) (pgm_name hN))
    (psm_cons (psm_dpt hu (pem_var 3) pem_str (pem_callTy ct_tuple (pam_cons (pem_callB cb_sorted (pam_cons (pem_call (c__law_some F) (bd.room.mono (by decide)) bd.gd (pass_tk bd.tk) (pam_cons (pem_var 0) (pam_cons (pem_lsRg rfl (pem_var 2) (by rfl) F.n_list (by rfl) F.n_range) (pam_cons (pem_op or_add pem_int (pem_call (c__law_take F) (bd.room.mono (by decide)) bd.gd (pass_tk bd.tk) (pam_cons (pem_var 0) (pam_cons (pem_var 2) pam_nil)) (by rfl) (hlen := (len_cons (len_cons len_nil))))) pam_nil))) (by rfl) (hlen := (len_cons (len_cons (len_cons len_nil))))) pam_nil) (by rfl) F.n_sorted (by rfl)) pam_nil) (by rfl) F.n_tuple (by rfl)))
    (psm_cons (psm_exp (pem_upd (pem_var 3) (pem_callTy (cb_dct rfl) (pam_cons (pem_lc (own := [(("key" : Str), 7)]) rfl hN (blk_ok (by kernel_rfl)) (pim_ls (pem_lst (pam_cons pem_str (pam_cons pem_str (pam_cons pem_str pam_nil))))) (fun _ _ _ _ _ => (pgm_name hN)) (fun _ _ _ _ _ => ptsm_nil) (fun _ _ _ _ _ => (pem_tup (pam_cons (pem_var 7) (pam_cons pem_dct pam_nil))))) pam_nil) (by rfl) F.n_dict (by rfl))))
    (psm_cons (psm_for bd.po rfl (pim_ls (pem_dgt hu (pem_var 3) pem_str)) (pgm_name hN) (psm_cons (psm_asg (pem_op or_add pem_int (pem_call (c__law_take F) (bd.room.mono (by decide)) bd.gd (pass_tk bd.tk) (pam_cons (pem_var 0) (pam_cons pem_int pam_nil)) (by rfl) (hlen := (len_cons (len_cons len_nil))))) (pgm_name hN))
    (psm_cons (psm_dpt hu (pem_dgt hu (pem_var 3) pem_str) (pem_var 4) (pem_var 5))
    (psm_one (psm_dpt hu (pem_dgt hu (pem_var 3) pem_str) (pem_var 4) (pem_callTy ct_tuple (pam_cons (pem_callB cb_sorted (pam_cons (pem_call (c__law_some F) (bd.room.mono (by decide)) bd.gd (pass_tk bd.tk) (pam_cons (pem_var 0) (pam_cons (pem_lsRg rfl (pem_var 5) (by rfl) F.n_list (by rfl) F.n_range) (pam_cons (pem_call (c__law_one F) (bd.room.mono (by decide)) bd.gd (pass_tk bd.tk) (pam_cons (pem_var 0) (pam_cons (pem_lst (pam_cons pem_int (pam_cons pem_int (pam_cons pem_int (pam_cons pem_int pam_nil))))) pam_nil)) (by rfl) (hlen := (len_cons (len_cons len_nil)))) pam_nil))) (by rfl) (hlen := (len_cons (len_cons (len_cons len_nil))))) pam_nil) (by rfl) F.n_sorted (by rfl)) pam_nil) (by rfl) F.n_tuple (by rfl)))))))
    (psm_cons (psm_for bd.po rfl (pim_ls (pem_dgt hu (pem_var 3) pem_str)) (pgm_name hN) (psm_one (psm_dpt hu (pem_dgt hu (pem_var 3) pem_str) (pem_var 4) (pem_lc (own := [(("turn" : Str), 6)]) rfl hN (blk_ok (by kernel_rfl)) (pim_rg1 (pam_cons (pem_op or_add pem_int (pem_call (c__law_take F) (bd.room.mono (by decide)) bd.gd (pass_tk bd.tk) (pam_cons (pem_var 0) (pam_cons pem_int pam_nil)) (by rfl) (hlen := (len_cons (len_cons len_nil))))) pam_nil) (by rfl) F.n_range) (fun _ _ _ _ _ => (pgm_name hN)) (fun _ _ _ _ _ => ptsm_nil) (fun _ _ _ _ _ => (pem_call (c__law_move F) (bd.room.mono (by decide)) bd.gd pass_0 (pam_cons (pem_var 0) (pam_cons (pem_var 3) (pam_cons (pem_var 4) pam_nil))) (by rfl) (hlen := (len_cons (len_cons (len_cons len_nil))))))))))
    (psm_one (psm_ret (pem_var 3)))))))))
theorem c__law_plain (F : Fx K mg) : Cal P w K mg base 4 "_law_plain" 2 f__law_plain := cal_of F.d__law_plain z__law_plain fun f cd A fr s H E bd => body__law_plain F bd
theorem z__law_right : FnScope ["urn", "plain", "made", "names", "band", "total", "told", "text", "odd", "others", "name", "value", "one"] ["urn"] (defScope (top 42)) := ⟨rfl, rfl, rfl, by decide +kernel, rfl, by decide +kernel, by decide +kernel⟩
theorem body__law_right (F : Fx K mg) {f : Addr} {cd : Value} {A : Around} {fr : List PySem.Env} {s : Shared} {H : Hp} {E : XK} (bd : Bd 17 (bX P w K mg base ["urn", "plain", "made", "names", "band", "total", "told", "text", "odd", "others", "name", "value", "one"] "_law_right" (top 42) f cd A fr s H E) (fun cls d _ H => E cls d H)) :
    PSsm (bX P w K mg base ["urn", "plain", "made", "names", "band", "total", "told", "text", "odd", "others", "name", "value", "one"] "_law_right" (top 42) f cd A fr s H E) (fun cls d _ H => E cls d H) (defBody (top 42)) b__law_right := by
  have hN := (z__law_right).nd
  have hu := bd.room.units
  have hu2 := Room.u2 bd.room
  unfold b__law_right
  exact (psm_cons (psm_asg (pem_call (c__law_plain F) (bd.room.mono (by decide)) bd.gd (pass_tk bd.tk) (pam_cons (pem_var 0) (pam_cons pem_int pam_nil)) (by rfl) (hlen := (len_cons (len_cons len_nil)))) (pgm_name hN))
    (psm_cons (psm_asg (pem_tup (pam_cons (pem_call (c__law_made F) (bd.room.mono (by decide)) bd.gd (pass_tk bd.tk) (pam_cons (pem_var 1) pam_nil) (by rfl) (hlen := (len_cons len_nil))) (pam_cons (pem_dgt hu (pem_var 1) pem_str) pam_nil))) (pgm_tup rfl (pgsm_cons (pgm_name hN) (pgsm_cons (pgm_name hN) pgsm_nil))))
    (psm_cons (by first | exact psm_setLc (own := [(("name" : Str), 10)]) rfl hN (blk_ok (by kernel_rfl)) (pim_ls (pem_var 3)) (fun _ _ _ _ _ => (pgm_name hN)) (fun _ _ _ _ _ => ptsm_nil) (fun _ _ _ _ _ => (pem_call (c__law_procedure F) (bd.room.mono (by decide)) bd.gd pass_0 (pam_cons (pem_var 1) (pam_cons (pem_var 10) pam_nil)) (by rfl) (hlen := (len_cons (len_cons len_nil))))) | exact psm_asg (pem_lc (own := [(("name" : Str), 10)]) rfl hN (blk_ok (by kernel_rfl)) (pim_ls (pem_var 3)) (fun _ _ _ _ _ => (pgm_name hN)) (fun _ _ _ _ _ => ptsm_nil) (fun _ _ _ _ _ => (pem_call (c__law_procedure F) (bd.room.mono (by decide)) bd.gd pass_0 (pam_cons (pem_var 1) (pam_cons (pem_var 10) pam_nil)) (by rfl) (hlen := (len_cons (len_cons len_nil)))))) (pgm_name hN))
    (psm_cons (psm_asg (pem_callB (cb_sum rfl) (pam_cons (pem_lc (own := [(("name" : Str), 10)]) rfl hN (blk_ok (by kernel_rfl)) (pim_ls (pem_var 3)) (fun _ _ _ _ _ => (pgm_name hN)) (fun _ _ _ _ _ => ptsm_nil) (fun _ _ _ _ _ => (pem_callB cb_len (pam_cons (pem_dgt hu (pem_dgt hu (pem_var 1) pem_str) (pem_var 10)) pam_nil) (by rfl) F.n_len (by rfl)))) pam_nil) (by rfl) F.n_sum (by rfl)) (pgm_name hN))
    (psm_cons (psm_asg (pem_lst (pam_cons (pem_prp (ca_size F) (bd.room.mono (by decide)) bd.gd (pem_var 2)) (pam_cons (pem_prp (ca_starts F) (bd.room.mono (by decide)) bd.gd (pem_var 2)) (pam_cons (pem_prp (ca_names F) (bd.room.mono (by decide)) bd.gd (pem_var 2)) (pam_cons (pem_prp (ca_main F) (bd.room.mono (by decide)) bd.gd (pem_var 2)) (pam_cons (pem_callB (cb_lenO (ca_U_lenU_ F) (bd.room.mono (by decide)) bd.gd) (pam_cons (pem_var 2) pam_nil) (by rfl) F.n_len (by rfl)) pam_nil)))))) (pgm_name hN))
    (psm_cons (psm_if (ptm_cmp (or_ne hu) (pem_callB (cb_repr bd.gd hu) (pam_cons (pem_var 6) pam_nil) (by rfl) F.n_repr (by rfl)) (pem_callB (cb_repr bd.gd hu) (pam_cons (pem_lst (pam_cons (pem_dgt hu (pem_var 1) pem_str) (pam_cons (pem_dgt hu (pem_var 1) pem_str) (pam_cons (pem_callTy ct_tuple (pam_cons (pem_var 3) pam_nil) (by rfl) F.n_tuple (by rfl)) (pam_cons pem_str (pam_cons (pem_callB cb_len (pam_cons (pem_var 3) pam_nil) (by rfl) F.n_len (by rfl)) pam_nil)))))) pam_nil) (by rfl) F.n_repr (by rfl))) (psm_one (psm_ret pem_bl)) psm_nil)
    (psm_cons (psm_asg (pem_op or_add (pem_op or_add (pem_op or_add (pem_op or_add pem_str (pem_callTy (cb_strO (ca_U_strU_ F) hu (bd.room.mono (by decide)) bd.gd) (pam_cons (pem_callB cb_len (pam_cons (pem_var 3) pam_nil) (by rfl) F.n_len (by rfl)) pam_nil) (by rfl) F.n_str (by rfl))) pem_str) (pem_callTy (cb_strO (ca_U_strU_ F) hu (bd.room.mono (by decide)) bd.gd) (pam_cons (pem_var 5) pam_nil) (by rfl) F.n_str (by rfl))) pem_str) (pgm_name hN))
    (psm_cons (psm_if (ptm_cmp (or_ne hu) (pem_callTy (cb_strO (ca_U_strU_ F) hu (bd.room.mono (by decide)) bd.gd) (pam_cons (pem_var 2) pam_nil) (by rfl) F.n_str (by rfl)) (pem_op or_add (pem_op or_add (pem_var 7) (pem_callTy (cb_strO (ca_U_strU_ F) hu (bd.room.mono (by decide)) bd.gd) (pam_cons (pem_dgt hu (pem_var 1) pem_str) pam_nil) (by rfl) F.n_str (by rfl))) pem_str)) (psm_one (psm_ret pem_bl)) psm_nil)
    (psm_cons (psm_if (ptm_bool (pwm_or (ptm_cmp (or_neD hu2 (qF_Procedure F) (bd.room.mono (by decide)) bd.gd) (pem_callTy ct_list (pam_cons (pem_prp (ca_procedures F) (bd.room.mono (by decide)) bd.gd (pem_var 2)) pam_nil) (by rfl) F.n_list (by rfl)) (pem_var 4)) (pwm_or1 (ptm_cmp (or_neD hu2 (qF_Procedure F) (bd.room.mono (by decide)) bd.gd) (pem_lc (own := [(("name" : Str), 10)]) rfl hN (blk_ok (by kernel_rfl)) (pim_ls (pem_var 3)) (fun _ _ _ _ _ => (pgm_name hN)) (fun _ _ _ _ _ => ptsm_nil) (fun _ _ _ _ _ => (pem_ixO (sF_U_getitemU_ F) (bd.room.mono (by decide)) bd.gd (pem_var 2) (pem_var 10)))) (pem_var 4))))) (psm_one (psm_ret pem_bl)) psm_nil)
    (psm_cons (psm_if (ptm_cmp (or_ne hu) (pem_lc (own := [(("name" : Str), 10)]) rfl hN (blk_ok (by kernel_rfl)) (pim_ls (pem_var 3)) (fun _ _ _ _ _ => (pgm_name hN)) (fun _ _ _ _ _ => (ptsm_one (ptm_cmp (or_notInO (sF_U_containsU_ F) (bd.room.mono (by decide)) bd.gd) (pem_var 10) (pem_var 2)))) (fun _ _ _ _ _ => (pem_var 10))) (pem_lst pam_nil)) (psm_one (psm_ret pem_bl)) psm_nil)
    (psm_cons (psm_asg (pem_lst (pam_cons pem_non (pam_cons pem_int (pam_cons pem_str (pam_cons pem_str (pam_cons (pem_tup (pam_cons pem_str pam_nil)) (pam_cons (pem_lst (pam_cons pem_str pam_nil)) (pam_cons pem_dct (pam_cons pem_bl (pam_cons (pem_ix (pem_var 4) pem_int) (pam_cons (pem_var 2) (pam_cons pem_str pam_nil)))))))))))) (pgm_name hN))
    (psm_cons (psm_if (ptm_cmp (or_ne hu) (pem_lc (own := [(("value" : Str), 11)]) rfl hN (blk_ok (by kernel_rfl)) (pim_ls (pem_var 8)) (fun _ _ _ _ _ => (pgm_name hN)) (fun _ _ _ _ _ => (ptsm_one (ptm_cmp (or_inO (sF_U_containsU_ F) (bd.room.mono (by decide)) bd.gd) (pem_var 11) (pem_var 2)))) (fun _ _ _ _ _ => (pem_var 11))) (pem_lst pam_nil)) (psm_one (psm_ret pem_bl)) psm_nil)
    (psm_cons (psm_asg (pem_call (c__law_others F) (bd.room.mono (by decide)) bd.gd (pass_tk bd.tk) (pam_cons (pem_var 0) (pam_cons (pem_var 1) (pam_cons (pem_var 4) pam_nil))) (by rfl) (hlen := (len_cons (len_cons (len_cons len_nil))))) (pgm_name hN))
    (psm_cons (psm_if (ptm_bool (pwm_or (ptm_cmp (or_ne hu) (pem_lc (own := [(("one" : Str), 12)]) rfl hN (blk_ok (by kernel_rfl)) (pim_ls (pem_var 9)) (fun _ _ _ _ _ => (pgm_name hN)) (fun _ _ _ _ _ => (ptsm_one (ptm_cmp (or_eqX hu (eqF F) F.nf (bd.room.mono (by decide)) bd.gd) (pem_var 2) (pem_var 12)))) (fun _ _ _ _ _ => (pem_var 12))) (pem_lst pam_nil)) (pwm_or1 (ptm_cmp (or_ne hu) (pem_lc (own := [(("one" : Str), 12)]) rfl hN (blk_ok (by kernel_rfl)) (pim_ls (pem_var 9)) (fun _ _ _ _ _ => (pgm_name hN)) (fun _ _ _ _ _ => (ptsm_one (ptm_not (ptm_cmp (or_neX hu (eqF F) F.neF F.nf (bd.room.mono (by decide)) bd.gd) (pem_var 2) (pem_var 12))))) (fun _ _ _ _ _ => (pem_var 12))) (pem_lst pam_nil))))) (psm_one (psm_ret pem_bl)) psm_nil)
    (psm_one (psm_ret (pem_and (pem_cmp (or_eqX hu (eqF F) F.nf (bd.room.mono (by decide)) bd.gd) (pem_var 2) (pem_call (c__law_made F) (bd.room.mono (by decide)) bd.gd (pass_tk bd.tk) (pam_cons (pem_var 1) pam_nil) (by rfl) (hlen := (len_cons len_nil)))) (pem_one (pem_not (pem_cmp (or_neX hu (eqF F) F.neF F.nf (bd.room.mono (by decide)) bd.gd) (pem_var 2) (pem_cmK (ck_Program_of_starts F) (bd.room.mono (by decide)) bd.gd (pass_tk bd.tk) (pam_cons (pem_prp (ca_size F) (bd.room.mono (by decide)) bd.gd (pem_var 2)) (pam_cons (pem_prp (ca_procedures F) (bd.room.mono (by decide)) bd.gd (pem_var 2)) pam_nil)) (pkm_cons (pem_prp (ca_starts F) (bd.room.mono (by decide)) bd.gd (pem_var 2)) pkm_nil) (by exact (len_cons (len_cons len_nil))) (by exact (len_cons len_nil)) (by rfl))))))))))))))))))))))
theorem c__law_right (F : Fx K mg) : Cal P w K mg base 18 "_law_right" 1 f__law_right := cal_of F.d__law_right z__law_right fun f cd A fr s H E bd => body__law_right F bd
theorem z__law_urn : FnScope ["script", "at", "cell", "great", "seed"] ["script", "at"] (defScope (top 32)) := ⟨rfl, rfl, rfl, by decide +kernel, rfl, by decide +kernel, by decide +kernel⟩
theorem body__law_urn (F : Fx K mg) {f : Addr} {cd : Value} {A : Around} {fr : List PySem.Env} {s : Shared} {H : Hp} {E : XK} (bd : Bd 0 (bX P w K mg base ["script", "at", "cell", "great", "seed"] "_law_urn" (top 32) f cd A fr s H E) (fun cls d _ H => E cls d H)) :
    PSsm (bX P w K mg base ["script", "at", "cell", "great", "seed"] "_law_urn" (top 32) f cd A fr s H E) (fun cls d _ H => E cls d H) (defBody (top 32)) b__law_urn := by
  have hN := (z__law_urn).nd
  have hu := bd.room.units
  unfold b__law_urn
  exact (psm_cons (psm_asg (pem_if (ptm_cmp or_lt (pem_var 1) (pem_callB cb_len (pam_cons (pem_var 0) pam_nil) (by rfl) F.n_len (by rfl))) (pem_ix (pem_var 0) (pem_var 1)) (pem_op or_add (pem_op or_mul pem_int (pem_var 1)) pem_int)) (pgm_name hN))
    (psm_cons (psm_asg (pem_op or_mod (pem_callTy ct_int (pam_cons (pem_callB cb_abs (pam_cons (pem_var 2) pam_nil) (by rfl) F.n_abs (by rfl)) pam_nil) (by rfl) F.n_int (by rfl)) (pem_op or_pow (pem_op or_pow pem_int pem_int) pem_int)) (pgm_name hN))
    (psm_cons (psm_asg (pem_op or_mod (pem_callTy ct_int (pam_cons (pem_op or_add (pem_op or_add (pem_op or_add (pem_op or_mul (pem_var 3) pem_int) (pem_op or_mul pem_int (pem_var 1))) (pem_op or_mul pem_int (pem_callTy ct_int (pam_cons (pem_cmp or_lt (pem_var 2) pem_int) pam_nil) (by rfl) F.n_int (by rfl)))) pem_int) pam_nil) (by rfl) F.n_int (by rfl)) pem_int) (pgm_name hN))
    (psm_one (psm_ret (pem_lst (pam_cons (pem_callB (cb_max rfl) (pam_cons pem_int (pam_cons (pem_op or_sub (pem_var 3) (pem_op or_pow pem_int pem_int)) pam_nil)) (by rfl) F.n_max (by rfl)) (pam_cons (pem_var 4) (pam_cons pem_int pam_nil)))))))))
theorem c__law_urn (F : Fx K mg) : Cal P w K mg base 1 "_law_urn" 2 f__law_urn := cal_of F.d__law_urn z__law_urn fun f cd A fr s H E bd => body__law_urn F bd
theorem z_law : FnScope ["script", "at", "main", "made", "told"] ["script"] (defScope (top 43)) := ⟨rfl, rfl, rfl, by decide +kernel, rfl, by decide +kernel, by decide +kernel⟩
theorem body_law (F : Fx K mg) {f : Addr} {cd : Value} {A : Around} {fr : List PySem.Env} {s : Shared} {H : Hp} {E : XK} (bd : Bd 18 (bX P w K mg base ["script", "at", "main", "made", "told"] "law" (top 43) f cd A fr s H E) (fun cls d _ H => E cls d H)) :
    PSsm (bX P w K mg base ["script", "at", "main", "made", "told"] "law" (top 43) f cd A fr s H E) (fun cls d _ H => E cls d H) (defBody (top 43)) b_law := by
  have hN := (z_law).nd
  have hu := bd.room.units
  unfold b_law
  exact (psm_cons (psm_gc (psm_for bd.po rfl (pim_rg1 (pam_cons (pem_callB (cb_max rfl) (pam_cons pem_int (pam_cons (pem_callB (cb_min rfl) (pam_cons pem_int (pam_cons (pem_callB cb_len (pam_cons (pem_var 0) pam_nil) (by rfl) F.n_len (by rfl)) pam_nil)) (by rfl) F.n_min (by rfl)) pam_nil)) (by rfl) F.n_max (by rfl)) pam_nil) (by rfl) F.n_range) (pgm_name hN) (psm_one (psm_if (ptm_not (ptm_val (pem_call (c__law_right F) (bd.room.mono (by decide)) bd.gd (pass_tk bd.tk) (pam_cons (pem_call (c__law_urn F) (bd.room.mono (by decide)) bd.gd (pass_tk bd.tk) (pam_cons (pem_var 0) (pam_cons (pem_var 1) pam_nil)) (by rfl) (hlen := (len_cons (len_cons len_nil)))) pam_nil) (by rfl) (hlen := (len_cons len_nil))))) (psm_one (psm_ret pem_bl)) psm_nil))))
    (psm_cons (psm_asg (pem_mkK (cc_Procedure_ends F) (bd.room.mono (by decide)) bd.gd (pass_tk bd.tk) (pam_cons pem_str (pam_cons pem_int (pam_cons (pem_tup (pam_cons (pem_tup (pam_cons pem_str (pam_cons pem_int (pam_cons pem_str (pam_cons pem_int pam_nil))))) (pam_cons (pem_tup (pam_cons pem_str (pam_cons pem_int (pam_cons (pem_tup (pam_cons pem_int (pam_cons pem_non (pam_cons pem_int (pam_cons pem_int (pam_cons pem_int pam_nil)))))) (pam_cons pem_int pam_nil))))) pam_nil))) pam_nil))) (pkm_cons (pem_tup (pam_cons pem_int (pam_cons pem_int pam_nil))) pkm_nil) (by exact (len_cons (len_cons (len_cons len_nil)))) (by exact (len_cons len_nil)) (by rfl)) (pgm_name hN))
    (psm_cons (psm_asg (pem_mkS (cc_Program F) (bd.room.mono (by decide)) bd.gd (pass_tk bd.tk) (pam_cons pem_int (pam_cons (pem_var 2) (pam_cons (pem_mk (cc_Procedure F) (bd.room.mono (by decide)) bd.gd (pass_tk bd.tk) (pam_cons pem_str (pam_cons pem_int (pam_cons (pem_tup (pam_cons (pem_tup (pam_cons pem_str (pam_cons pem_int (pam_cons pem_str (pam_cons pem_int pam_nil))))) pam_nil)) pam_nil))) (by exact (len_cons (len_cons (len_cons len_nil)))) (by rfl)) pam_nil))) (by rfl)) (pgm_name hN))
    (psm_cons (psm_asg (pem_lst (pam_cons (pem_prp (ca_size F) (bd.room.mono (by decide)) bd.gd (pem_var 3)) (pam_cons (pem_prp (ca_starts F) (bd.room.mono (by decide)) bd.gd (pem_var 3)) (pam_cons (pem_prp (ca_names F) (bd.room.mono (by decide)) bd.gd (pem_var 3)) (pam_cons (pem_prp (ca_ends F) (bd.room.mono (by decide)) bd.gd (pem_ixO (sF_U_getitemU_ F) (bd.room.mono (by decide)) bd.gd (pem_var 3) pem_str)) (pam_cons (pem_callB (cb_lenO (ca_U_lenU_ F) (bd.room.mono (by decide)) bd.gd) (pam_cons (pem_var 3) pam_nil) (by rfl) F.n_len (by rfl)) (pam_cons (pem_cmp (or_inO (sF_U_containsU_ F) (bd.room.mono (by decide)) bd.gd) pem_str (pem_var 3)) (pam_cons (pem_callTy (cb_strO (ca_U_strU_ F) hu (bd.room.mono (by decide)) bd.gd) (pam_cons (pem_var 3) pam_nil) (by rfl) F.n_str (by rfl)) pam_nil)))))))) (pgm_name hN))
    (psm_one (psm_ret (pem_cmp (or_eq hu) (pem_var 4) (pem_lst (pam_cons pem_int (pam_cons (pem_tup (pam_cons pem_int pam_nil)) (pam_cons (pem_tup (pam_cons pem_str (pam_cons pem_str pam_nil))) (pam_cons (pem_tup pam_nil) (pam_cons pem_int (pam_cons pem_bl (pam_cons pem_str pam_nil)))))))))))))))
theorem c_law (F : Fx K mg) : Cal P w K mg base 19 "law" 1 f_law := cal_of F.d_law z_law fun f cd A fr s H E bd => body_law F bd
end
end K04

set_option Elab.async false
set_option linter.all false
set_option maxRecDepth 100000
set_option maxHeartbeats 0
namespace K04
open PySem PySem.Spec PyProof.Rows L2 Sm
def dI (i : Nat) (x : Str) : He5.DefA := ⟨fun K => He.ga K x, x, x, defArgs (top i), defBody (top i), defScope (top i), [], []⟩
def dM (i j : Nat) (c m q : Str) (kw : List (Str × He.Dv)) : He5.DefA := ⟨fun K => He.ma K (He.ga K c) m, m, q, defArgs (met i j), defBody (met i j), defScope (met i j), [], kw⟩
def dP (i j : Nat) (c m q : Str) : He5.DefA := ⟨fun K => He5.wf K (He.ga K c) "property" m, m, q, defArgs (met i j), defBody (met i j), defScope (met i j), [], []⟩
def dC (i j : Nat) (c m q : Str) (kw : List (Str × He.Dv)) : He5.DefA := ⟨fun K => He5.wf K (He.ga K c) "classmethod" m, m, q, defArgs (met i j), defBody (met i j), defScope (met i j), [], kw⟩
def neB (c : Str) (K : PySem.W.Frag) : Bool := decide (PySem.W.findIn K (.ref (He.ga K c)) "__ne__" = some (some (.builtin "object.__ne__")))
def a_Procedure (x : Str) : PySem.W.Frag → Addr := kwdAt (fun K => He.ma K (He.ga K "Procedure") "__init__") x
def a_Program (x : Str) : PySem.W.Frag → Addr := kwdAt (fun K => He.ma K (He.ga K "Program") "__init__") x
def k_Program_of (x : Str) : PySem.W.Frag → Addr := kwdAt (fun K => He5.wf K (He.ga K "Program") "classmethod" "of") x
def fn : List He5.DefA := [dI 15 "is_ascending", dI 13 "is_integer", dI 14 "is_below", dI 16 "are_numbers", dI 25 "are_ends", dI 17 "is_name", dI 21 "is_table_row", dI 22 "is_move", dI 23 "lengths_of", dI 24 "are_moves", dI 26 "indices_at", dM 27 0 "Procedure" "__init__" "Procedure.__init__" [("ends", .adr (a_Procedure "ends"))], dM 27 6 "Procedure" "__len__" "Procedure.__len__" [], dM 27 8 "Procedure" "__str__" "Procedure.__str__" [], dP 27 4 "Procedure" "ends" "Procedure.ends", dM 29 17 "Program" "__contains__" "Program.__contains__" [], dI 30 "require_procedure", dM 29 16 "Program" "__getitem__" "Program.__getitem__" [], dI 28 "are_fitting", dM 29 0 "Program" "__init__" "Program.__init__" [("starts", .adr (a_Program "starts"))], dM 29 19 "Program" "__len__" "Program.__len__" [], dM 29 21 "Program" "__str__" "Program.__str__" [], dP 29 5 "Program" "names" "Program.names", dP 29 2 "Program" "size" "Program.size", dP 29 3 "Program" "starts" "Program.starts", dM 27 7 "Procedure" "__eq__" "Procedure.__eq__" [], dM 29 20 "Program" "__eq__" "Program.__eq__" [], dP 29 6 "Program" "main" "Program.main", dC 29 1 "Program" "of" "Program.of" [("starts", .adr (k_Program_of "starts"))], dP 29 4 "Program" "procedures" "Program.procedures", dI 39 "_law_procedure", dI 40 "_law_made", dI 33 "_law_take", dI 34 "_law_one", dI 41 "_law_others", dI 36 "_law_entries", dI 37 "_law_move", dI 35 "_law_some", dI 38 "_law_plain", dI 42 "_law_right", dI 32 "_law_urn", dI 43 "law"]
def gs : Gs := [emptyT (a_Procedure "ends"), propB "Procedure" "ends", intsT (a_Program "starts") [0], propB "Program" "names", propB "Program" "size", propB "Program" "starts", propB "Program" "main", cmB "Program" "of", clsO "Program", propB "Program" "procedures", (fun K => clsTb K "Procedure"), (fun K => clsTb K "Program"), (fun K => isFb K own_cs "Procedure"), (fun K => isFb K own_cs "Program"), neB "Program", neB "Procedure", nfB own_cs, (fun K => isTb K own_cs "str"), fnB "Program" "__contains__", fnB "Program" "__getitem__"]
def fa : List He.Fa := [.free "abs", .free "all", .free "bool", .free "dict", .free "enumerate", .free "int", .free "isinstance", .free "len", .free "list", .free "max", .free "min", .free "range", .free "repr", .free "sorted", .free "str", .free "sum", .free "tuple", .free "zip", .str "LETTERS" "abcdefghijklmnopqrstuvwxyz", .int "MAX_ENDS" 3, .int "MAX_LETTERS" 8, .int "MAX_MOVES" 12, .int "MAX_POINTS" 6, .int "MAX_PROCEDURES" 4, .int "MAX_SIZE" 5, .int "TOP" 10000000000000000000000000000000000000000, .glo "is_ascending", .glo "is_integer", .glo "is_below", .glo "are_numbers", .glo "are_ends", .glo "is_name", .glo "is_table_row", .glo "is_move", .glo "lengths_of", .glo "are_moves", .glo "indices_at", .cls "Procedure", .mkr "Procedure", .glo "Procedure", .meth "Procedure" "__len__", .meth "Procedure" "__str__", .cls "Program", .meth "Program" "__contains__", .glo "require_procedure", .meth "Program" "__getitem__", .glo "are_fitting", .mkr "Program", .glo "Program", .meth "Program" "__len__", .meth "Program" "__str__", .meth "Procedure" "__eq__", .meth "Program" "__eq__", .glo "_law_procedure", .glo "_law_made", .glo "_law_take", .glo "_law_one", .glo "_law_others", .glo "_law_entries", .glo "_law_move", .glo "_law_some", .glo "_law_plain", .glo "_law_right", .glo "_law_urn", .glo "law", .noat "Procedure" "own_at", .noat "Procedure" "own_ends", .noat "Program" "own_kept", .noat "Program" "own_main", .noat "Procedure" "own_moves", .noat "Procedure" "own_name", .noat "Procedure" "own_points", .noat "Program" "own_procedures", .noat "Procedure" "own_shape", .noat "Program" "own_shape", .noat "Program" "own_size", .noat "Program" "own_starts", .noat "Program" "own_table", .exc "InvalidProgram", .glo "InvalidProgram"]
abbrev R : PySem.W.OpenRow := PySem.W.OpenLaw.row PySem.Challenge.rw_stepmarks_k04_programs_by_their_form
abbrev hk : PySem.W.Hook := hookS 5 fa gs fn
def ob (s : PySem.W.SharedT) : He.AlD := obsSG 5 fa gs fn (HandSHeadRun.getT s)
theorem ob_eq (s : PySem.W.SharedT) : ob s = hk.obs s.abs := obsSG_eq (HandSHeadRun.getT_eq s)
def loose : List PySem.Str := ([("_wall" : PySem.Str), ("StepError" : PySem.Str), ("InvalidProgram" : PySem.Str), ("InvalidOperation" : PySem.Str), ("UnknownName" : PySem.Str), ("LETTERS" : PySem.Str), ("MAX_LETTERS" : PySem.Str), ("MAX_SIZE" : PySem.Str), ("MAX_POINTS" : PySem.Str), ("MAX_MOVES" : PySem.Str), ("TOP" : PySem.Str), ("is_integer" : PySem.Str), ("is_below" : PySem.Str), ("is_ascending" : PySem.Str), ("are_numbers" : PySem.Str), ("is_name" : PySem.Str), ("MAX_ENDS" : PySem.Str), ("MAX_PROCEDURES" : PySem.Str), ("is_table_row" : PySem.Str), ("is_move" : PySem.Str), ("lengths_of" : PySem.Str), ("are_moves" : PySem.Str), ("are_ends" : PySem.Str), ("indices_at" : PySem.Str), ("Procedure" : PySem.Str), ("are_fitting" : PySem.Str), ("Program" : PySem.Str), ("require_procedure" : PySem.Str), ("_law_urn" : PySem.Str), ("_law_take" : PySem.Str), ("_law_one" : PySem.Str), ("_law_some" : PySem.Str), ("_law_entries" : PySem.Str), ("_law_move" : PySem.Str), ("_law_plain" : PySem.Str)] : List PySem.Str) ++ ([("_law_procedure" : PySem.Str), ("_law_made" : PySem.Str), ("_law_others" : PySem.Str), ("_law_right" : PySem.Str)] : List PySem.Str)
theorem run (w : World) : HandSHeadRun.RunEq R (PySem.W.view R.prog [43]) hk ob 8000 loose w := by
  intro os
  kernel_rfl
theorem fx_of {K : PySem.W.Frag} {h : Heap} {mg : Str → Option Value} (X : K.In h) (G : h.Ns mainGlobals mg) (c : SaysS fa gs fn K) : Fx K mg where
  n_abs := He.free_ok X G (c.fact 0 (f := .free "abs") rfl)
  n_all := He.free_ok X G (c.fact 1 (f := .free "all") rfl)
  n_bool := He.free_ok X G (c.fact 2 (f := .free "bool") rfl)
  n_dict := He.free_ok X G (c.fact 3 (f := .free "dict") rfl)
  n_enumerate := He.free_ok X G (c.fact 4 (f := .free "enumerate") rfl)
  n_int := He.free_ok X G (c.fact 5 (f := .free "int") rfl)
  n_isinstance := He.free_ok X G (c.fact 6 (f := .free "isinstance") rfl)
  n_len := He.free_ok X G (c.fact 7 (f := .free "len") rfl)
  n_list := He.free_ok X G (c.fact 8 (f := .free "list") rfl)
  n_max := He.free_ok X G (c.fact 9 (f := .free "max") rfl)
  n_min := He.free_ok X G (c.fact 10 (f := .free "min") rfl)
  n_range := He.free_ok X G (c.fact 11 (f := .free "range") rfl)
  n_repr := He.free_ok X G (c.fact 12 (f := .free "repr") rfl)
  n_sorted := He.free_ok X G (c.fact 13 (f := .free "sorted") rfl)
  n_str := He.free_ok X G (c.fact 14 (f := .free "str") rfl)
  n_sum := He.free_ok X G (c.fact 15 (f := .free "sum") rfl)
  n_tuple := He.free_ok X G (c.fact 16 (f := .free "tuple") rfl)
  n_zip := He.free_ok X G (c.fact 17 (f := .free "zip") rfl)
  k_LETTERS := He.str_ok X G (c.fact 18 (f := .str "LETTERS" "abcdefghijklmnopqrstuvwxyz") rfl)
  k_MAX_ENDS := He.int_ok X G (c.fact 19 (f := .int "MAX_ENDS" 3) rfl)
  k_MAX_LETTERS := He.int_ok X G (c.fact 20 (f := .int "MAX_LETTERS" 8) rfl)
  k_MAX_MOVES := He.int_ok X G (c.fact 21 (f := .int "MAX_MOVES" 12) rfl)
  k_MAX_POINTS := He.int_ok X G (c.fact 22 (f := .int "MAX_POINTS" 6) rfl)
  k_MAX_PROCEDURES := He.int_ok X G (c.fact 23 (f := .int "MAX_PROCEDURES" 4) rfl)
  k_MAX_SIZE := He.int_ok X G (c.fact 24 (f := .int "MAX_SIZE" 5) rfl)
  k_TOP := He.int_ok X G (c.fact 25 (f := .int "TOP" 10000000000000000000000000000000000000000) rfl)
  d_is_ascending := defAt_mk (ps := ["items"]) (c.def_ 0 (d := dI 15 "is_ascending") rfl) (He.glo_ok X G (c.fact 26 (f := .glo "is_ascending") rfl)) fun _ _ _ _ _ _ us hl => match us, hl with | [_], _ => rfl
  d_is_integer := defAt_mk (ps := ["value"]) (c.def_ 1 (d := dI 13 "is_integer") rfl) (He.glo_ok X G (c.fact 27 (f := .glo "is_integer") rfl)) fun _ _ _ _ _ _ us hl => match us, hl with | [_], _ => rfl
  d_is_below := defAt_mk (ps := ["value", "limit"]) (c.def_ 2 (d := dI 14 "is_below") rfl) (He.glo_ok X G (c.fact 28 (f := .glo "is_below") rfl)) fun _ _ _ _ _ _ us hl => match us, hl with | [_, _], _ => rfl
  d_are_numbers := defAt_mk (ps := ["value", "limit"]) (c.def_ 3 (d := dI 16 "are_numbers") rfl) (He.glo_ok X G (c.fact 29 (f := .glo "are_numbers") rfl)) fun _ _ _ _ _ _ us hl => match us, hl with | [_, _], _ => rfl
  d_are_ends := defAt_mk (ps := ["value", "points"]) (c.def_ 4 (d := dI 25 "are_ends") rfl) (He.glo_ok X G (c.fact 30 (f := .glo "are_ends") rfl)) fun _ _ _ _ _ _ us hl => match us, hl with | [_, _], _ => rfl
  d_is_name := defAt_mk (ps := ["value"]) (c.def_ 5 (d := dI 17 "is_name") rfl) (He.glo_ok X G (c.fact 31 (f := .glo "is_name") rfl)) fun _ _ _ _ _ _ us hl => match us, hl with | [_], _ => rfl
  d_is_table_row := defAt_mk (ps := ["value"]) (c.def_ 6 (d := dI 21 "is_table_row") rfl) (He.glo_ok X G (c.fact 32 (f := .glo "is_table_row") rfl)) fun _ _ _ _ _ _ us hl => match us, hl with | [_], _ => rfl
  d_is_move := defAt_mk (ps := ["value", "points"]) (c.def_ 7 (d := dI 22 "is_move") rfl) (He.glo_ok X G (c.fact 33 (f := .glo "is_move") rfl)) fun _ _ _ _ _ _ us hl => match us, hl with | [_, _], _ => rfl
  d_lengths_of := defAt_mk (ps := ["moves"]) (c.def_ 8 (d := dI 23 "lengths_of") rfl) (He.glo_ok X G (c.fact 34 (f := .glo "lengths_of") rfl)) fun _ _ _ _ _ _ us hl => match us, hl with | [_], _ => rfl
  d_are_moves := defAt_mk (ps := ["value", "points"]) (c.def_ 9 (d := dI 24 "are_moves") rfl) (He.glo_ok X G (c.fact 35 (f := .glo "are_moves") rfl)) fun _ _ _ _ _ _ us hl => match us, hl with | [_, _], _ => rfl
  d_indices_at := defAt_mk (ps := ["moves", "point"]) (c.def_ 10 (d := dI 26 "indices_at") rfl) (He.glo_ok X G (c.fact 36 (f := .glo "indices_at") rfl)) fun _ _ _ _ _ _ us hl => match us, hl with | [_, _], _ => rfl
  m_Procedure := defAtC_et (c.def_ 11 (d := dM 27 0 "Procedure" "__init__" "Procedure.__init__" [("ends", .adr (a_Procedure "ends"))]) rfl) (He.mkr_ok (c.fact 38 (f := .mkr "Procedure") rfl)) (He.glo_ok X G (c.fact 39 (f := .glo "Procedure") rfl)) (c.own 0 (g := emptyT (a_Procedure "ends")) rfl) (fun fd F => FunD.kbinds0 F 4 [] [("ends", .ref (a_Procedure "ends" K))] (fun us mv ws => us ++ mv) (by simp [He5.DefA.kws, dM]) (by simp [He5.DefA.kws, dM, He.Dv.v]) (fun a b _ => a.append b) fun D doc pm an cdv ct us mv ws h1 h2 h3 => match us, mv, ws, h1, h2, h3 with | [_, _, _, _], [_], [], _, _, _ => ⟨_, _, _, _, _, _, rfl, rfl, rfl⟩) (by decide)
  m_Procedure_ends := defAtC_kw (c.def_ 11 (d := dM 27 0 "Procedure" "__init__" "Procedure.__init__" [("ends", .adr (a_Procedure "ends"))]) rfl) (He.mkr_ok (c.fact 38 (f := .mkr "Procedure") rfl)) (He.glo_ok X G (c.fact 39 (f := .glo "Procedure") rfl)) (fun fd F => FunD.kbinds0 F 4 ["ends"] [] (fun us mv ws => us ++ ws) (by simp [He5.DefA.kws, dM]) (by simp) (fun a _ c => a.append c) fun D doc pm an cdv ct us mv ws h1 h2 h3 => match us, ws, h1, h3 with | [_, _, _, _], [_], _, _ => rfl) (by decide)
  d_Procedure_U_lenU_ := defAtM_mk (c.def_ 12 (d := dM 27 6 "Procedure" "__len__" "Procedure.__len__" []) rfl) (He.cls_ok (c.fact 37 (f := .cls "Procedure") rfl)) (He.meth_ok (c.fact 40 (f := .meth "Procedure" "__len__") rfl)) fun _ _ _ _ _ _ us hl => match us, hl with | [_], _ => rfl
  d_Procedure_U_strU_ := defAtM_mk (c.def_ 13 (d := dM 27 8 "Procedure" "__str__" "Procedure.__str__" []) rfl) (He.cls_ok (c.fact 37 (f := .cls "Procedure") rfl)) (He.meth_ok (c.fact 41 (f := .meth "Procedure" "__str__") rfl)) fun _ _ _ _ _ _ us hl => match us, hl with | [_], _ => rfl
  d_Procedure_ends := defAtP_mk (c.def_ 14 (d := dP 27 4 "Procedure" "ends" "Procedure.ends") rfl) (He.cls_ok (c.fact 37 (f := .cls "Procedure") rfl)) (c.own 1 (g := propB "Procedure" "ends") rfl) fun _ _ _ _ _ _ us hl => match us, hl with | [_], _ => rfl
  d_Program_U_containsU_ := defAtM_mk (c.def_ 15 (d := dM 29 17 "Program" "__contains__" "Program.__contains__" []) rfl) (He.cls_ok (c.fact 42 (f := .cls "Program") rfl)) (He.meth_ok (c.fact 43 (f := .meth "Program" "__contains__") rfl)) fun _ _ _ _ _ _ us hl => match us, hl with | [_, _], _ => rfl
  d_require_procedure := defAt_mk (ps := ["program", "name"]) (c.def_ 16 (d := dI 30 "require_procedure") rfl) (He.glo_ok X G (c.fact 44 (f := .glo "require_procedure") rfl)) fun _ _ _ _ _ _ us hl => match us, hl with | [_, _], _ => rfl
  d_Program_U_getitemU_ := defAtM_mk (c.def_ 17 (d := dM 29 16 "Program" "__getitem__" "Program.__getitem__" []) rfl) (He.cls_ok (c.fact 42 (f := .cls "Program") rfl)) (He.meth_ok (c.fact 45 (f := .meth "Program" "__getitem__") rfl)) fun _ _ _ _ _ _ us hl => match us, hl with | [_, _], _ => rfl
  d_are_fitting := defAt_mk (ps := ["size", "table"]) (c.def_ 18 (d := dI 28 "are_fitting") rfl) (He.glo_ok X G (c.fact 46 (f := .glo "are_fitting") rfl)) fun _ _ _ _ _ _ us hl => match us, hl with | [_, _], _ => rfl
  m_Program := defAtS_et (a := a_Program "starts") (x := "starts") (ns := [0]) (c.def_ 19 (d := dM 29 0 "Program" "__init__" "Program.__init__" [("starts", .adr (a_Program "starts"))]) rfl) (by simp [He5.DefA.kws, dM, He.Dv.v]) (He.mkr_ok (c.fact 47 (f := .mkr "Program") rfl)) (He.glo_ok X G (c.fact 48 (f := .glo "Program") rfl)) (c.own 2 (g := intsT (a_Program "starts") [0]) rfl) (fun D doc pm an cdv ct d us rest l1 => match us, l1 with | [_, _], _ => by cases rest <;> exact ⟨_, _, _, _, _, _, rfl, rfl, rfl⟩) (by decide)
  m_Program_starts := defAtS_kw (c.def_ 19 (d := dM 29 0 "Program" "__init__" "Program.__init__" [("starts", .adr (a_Program "starts"))]) rfl) (He.mkr_ok (c.fact 47 (f := .mkr "Program") rfl)) (He.glo_ok X G (c.fact 48 (f := .glo "Program") rfl)) (fun kV doc pm an cdv ct us rest ws l1 l2 => match us, ws, l1, l2 with | [_, _], [_], _, _ => by cases rest <;> rfl) (by decide)
  d_Program_U_lenU_ := defAtM_mk (c.def_ 20 (d := dM 29 19 "Program" "__len__" "Program.__len__" []) rfl) (He.cls_ok (c.fact 42 (f := .cls "Program") rfl)) (He.meth_ok (c.fact 49 (f := .meth "Program" "__len__") rfl)) fun _ _ _ _ _ _ us hl => match us, hl with | [_], _ => rfl
  d_Program_U_strU_ := defAtM_mk (c.def_ 21 (d := dM 29 21 "Program" "__str__" "Program.__str__" []) rfl) (He.cls_ok (c.fact 42 (f := .cls "Program") rfl)) (He.meth_ok (c.fact 50 (f := .meth "Program" "__str__") rfl)) fun _ _ _ _ _ _ us hl => match us, hl with | [_], _ => rfl
  d_Program_names := defAtP_mk (c.def_ 22 (d := dP 29 5 "Program" "names" "Program.names") rfl) (He.cls_ok (c.fact 42 (f := .cls "Program") rfl)) (c.own 3 (g := propB "Program" "names") rfl) fun _ _ _ _ _ _ us hl => match us, hl with | [_], _ => rfl
  d_Program_size := defAtP_mk (c.def_ 23 (d := dP 29 2 "Program" "size" "Program.size") rfl) (He.cls_ok (c.fact 42 (f := .cls "Program") rfl)) (c.own 4 (g := propB "Program" "size") rfl) fun _ _ _ _ _ _ us hl => match us, hl with | [_], _ => rfl
  d_Program_starts := defAtP_mk (c.def_ 24 (d := dP 29 3 "Program" "starts" "Program.starts") rfl) (He.cls_ok (c.fact 42 (f := .cls "Program") rfl)) (c.own 5 (g := propB "Program" "starts") rfl) fun _ _ _ _ _ _ us hl => match us, hl with | [_], _ => rfl
  d_Procedure_U_eqU_ := defAtM_mk (c.def_ 25 (d := dM 27 7 "Procedure" "__eq__" "Procedure.__eq__" []) rfl) (He.cls_ok (c.fact 37 (f := .cls "Procedure") rfl)) (He.meth_ok (c.fact 51 (f := .meth "Procedure" "__eq__") rfl)) fun _ _ _ _ _ _ us hl => match us, hl with | [_, _], _ => rfl
  d_Program_U_eqU_ := defAtM_mk (c.def_ 26 (d := dM 29 20 "Program" "__eq__" "Program.__eq__" []) rfl) (He.cls_ok (c.fact 42 (f := .cls "Program") rfl)) (He.meth_ok (c.fact 52 (f := .meth "Program" "__eq__") rfl)) fun _ _ _ _ _ _ us hl => match us, hl with | [_, _], _ => rfl
  d_Program_main := defAtP_mk (c.def_ 27 (d := dP 29 6 "Program" "main" "Program.main") rfl) (He.cls_ok (c.fact 42 (f := .cls "Program") rfl)) (c.own 6 (g := propB "Program" "main") rfl) fun _ _ _ _ _ _ us hl => match us, hl with | [_], _ => rfl
  k_Program_of_starts := defAtK_mk (c.def_ 28 (d := dC 29 1 "Program" "of" "Program.of" [("starts", .adr (k_Program_of "starts"))]) rfl) (c.own 7 (g := cmB "Program" "of") rfl) (c.own 8 (g := clsO "Program") rfl) (He.glo_ok X G (c.fact 48 (f := .glo "Program") rfl)) (fun fd F => FunD.kbinds0 F 3 ["starts"] [] (fun us mv ws => us ++ ws) (by simp [He5.DefA.kws, dC]) (by simp) (fun a _ c => a.append c) fun D doc pm an cdv ct us mv ws h1 h2 h3 => match us, ws, h1, h3 with | [_, _, _], [_], _, _ => rfl) (by decide)
  d_Program_procedures := defAtP_mk (c.def_ 29 (d := dP 29 4 "Program" "procedures" "Program.procedures") rfl) (He.cls_ok (c.fact 42 (f := .cls "Program") rfl)) (c.own 9 (g := propB "Program" "procedures") rfl) fun _ _ _ _ _ _ us hl => match us, hl with | [_], _ => rfl
  d__law_procedure := defAt_mk (ps := ["plain", "name"]) (c.def_ 30 (d := dI 39 "_law_procedure") rfl) (He.glo_ok X G (c.fact 53 (f := .glo "_law_procedure") rfl)) fun _ _ _ _ _ _ us hl => match us, hl with | [_, _], _ => rfl
  d__law_made := defAt_mk (ps := ["plain"]) (c.def_ 31 (d := dI 40 "_law_made") rfl) (He.glo_ok X G (c.fact 54 (f := .glo "_law_made") rfl)) fun _ _ _ _ _ _ us hl => match us, hl with | [_], _ => rfl
  d__law_take := defAt_mk (ps := ["urn", "total"]) (c.def_ 32 (d := dI 33 "_law_take") rfl) (He.glo_ok X G (c.fact 55 (f := .glo "_law_take") rfl)) fun _ _ _ _ _ _ us hl => match us, hl with | [_, _], _ => rfl
  d__law_one := defAt_mk (ps := ["urn", "items"]) (c.def_ 33 (d := dI 34 "_law_one") rfl) (He.glo_ok X G (c.fact 56 (f := .glo "_law_one") rfl)) fun _ _ _ _ _ _ us hl => match us, hl with | [_, _], _ => rfl
  d__law_others := defAt_mk (ps := ["urn", "plain", "band"]) (c.def_ 34 (d := dI 41 "_law_others") rfl) (He.glo_ok X G (c.fact 57 (f := .glo "_law_others") rfl)) fun _ _ _ _ _ _ us hl => match us, hl with | [_, _, _], _ => rfl
  d__law_entries := defAt_mk (ps := ["urn", "size"]) (c.def_ 35 (d := dI 36 "_law_entries") rfl) (He.glo_ok X G (c.fact 58 (f := .glo "_law_entries") rfl)) fun _ _ _ _ _ _ us hl => match us, hl with | [_, _], _ => rfl
  d__law_move := defAt_mk (ps := ["urn", "plain", "name"]) (c.def_ 36 (d := dI 37 "_law_move") rfl) (He.glo_ok X G (c.fact 59 (f := .glo "_law_move") rfl)) fun _ _ _ _ _ _ us hl => match us, hl with | [_, _, _], _ => rfl
  d__law_some := defAt_mk (ps := ["urn", "items", "lots"]) (c.def_ 37 (d := dI 35 "_law_some") rfl) (He.glo_ok X G (c.fact 60 (f := .glo "_law_some") rfl)) fun _ _ _ _ _ _ us hl => match us, hl with | [_, _, _], _ => rfl
  d__law_plain := defAt_mk (ps := ["urn", "lots"]) (c.def_ 38 (d := dI 38 "_law_plain") rfl) (He.glo_ok X G (c.fact 61 (f := .glo "_law_plain") rfl)) fun _ _ _ _ _ _ us hl => match us, hl with | [_, _], _ => rfl
  d__law_right := defAt_mk (ps := ["urn"]) (c.def_ 39 (d := dI 42 "_law_right") rfl) (He.glo_ok X G (c.fact 62 (f := .glo "_law_right") rfl)) fun _ _ _ _ _ _ us hl => match us, hl with | [_], _ => rfl
  d__law_urn := defAt_mk (ps := ["script", "at"]) (c.def_ 40 (d := dI 32 "_law_urn") rfl) (He.glo_ok X G (c.fact 63 (f := .glo "_law_urn") rfl)) fun _ _ _ _ _ _ us hl => match us, hl with | [_, _], _ => rfl
  d_law := defAt_mk (ps := ["script"]) (c.def_ 41 (d := dI 43 "law") rfl) (He.glo_ok X G (c.fact 64 (f := .glo "law") rfl)) fun _ _ _ _ _ _ us hl => match us, hl with | [_], _ => rfl
  okf := clsF_mk (List.forall_mem_cons.mpr ⟨⟨He.cls_ok (c.fact 37 (f := .cls "Procedure") rfl), He.noat_ok (c.fact 65 (f := .noat "Procedure" "own_at") rfl)⟩, (List.forall_mem_cons.mpr ⟨⟨He.cls_ok (c.fact 37 (f := .cls "Procedure") rfl), He.noat_ok (c.fact 66 (f := .noat "Procedure" "own_ends") rfl)⟩, (List.forall_mem_cons.mpr ⟨⟨He.cls_ok (c.fact 42 (f := .cls "Program") rfl), He.noat_ok (c.fact 67 (f := .noat "Program" "own_kept") rfl)⟩, (List.forall_mem_cons.mpr ⟨⟨He.cls_ok (c.fact 42 (f := .cls "Program") rfl), He.noat_ok (c.fact 68 (f := .noat "Program" "own_main") rfl)⟩, (List.forall_mem_cons.mpr ⟨⟨He.cls_ok (c.fact 37 (f := .cls "Procedure") rfl), He.noat_ok (c.fact 69 (f := .noat "Procedure" "own_moves") rfl)⟩, (List.forall_mem_cons.mpr ⟨⟨He.cls_ok (c.fact 37 (f := .cls "Procedure") rfl), He.noat_ok (c.fact 70 (f := .noat "Procedure" "own_name") rfl)⟩, (List.forall_mem_cons.mpr ⟨⟨He.cls_ok (c.fact 37 (f := .cls "Procedure") rfl), He.noat_ok (c.fact 71 (f := .noat "Procedure" "own_points") rfl)⟩, (List.forall_mem_cons.mpr ⟨⟨He.cls_ok (c.fact 42 (f := .cls "Program") rfl), He.noat_ok (c.fact 72 (f := .noat "Program" "own_procedures") rfl)⟩, (List.forall_mem_cons.mpr ⟨⟨He.cls_ok (c.fact 37 (f := .cls "Procedure") rfl), He.noat_ok (c.fact 73 (f := .noat "Procedure" "own_shape") rfl)⟩, (List.forall_mem_cons.mpr ⟨⟨He.cls_ok (c.fact 42 (f := .cls "Program") rfl), He.noat_ok (c.fact 74 (f := .noat "Program" "own_shape") rfl)⟩, (List.forall_mem_cons.mpr ⟨⟨He.cls_ok (c.fact 42 (f := .cls "Program") rfl), He.noat_ok (c.fact 75 (f := .noat "Program" "own_size") rfl)⟩, (List.forall_mem_cons.mpr ⟨⟨He.cls_ok (c.fact 42 (f := .cls "Program") rfl), He.noat_ok (c.fact 76 (f := .noat "Program" "own_starts") rfl)⟩, (List.forall_mem_cons.mpr ⟨⟨He.cls_ok (c.fact 42 (f := .cls "Program") rfl), He.noat_ok (c.fact 77 (f := .noat "Program" "own_table") rfl)⟩, (List.forall_mem_nil _)⟩)⟩)⟩)⟩)⟩)⟩)⟩)⟩)⟩)⟩)⟩)⟩)⟩)
  g_Procedure := He.glo_ok X G (c.fact 39 (f := .glo "Procedure") rfl)
  ct_Procedure := clsT_ok (c.own 10 (g := (fun K => clsTb K "Procedure")) rfl)
  g_Program := He.glo_ok X G (c.fact 48 (f := .glo "Program") rfl)
  ct_Program := clsT_ok (c.own 11 (g := (fun K => clsTb K "Program")) rfl)
  is_Procedure := isF_ok (c.own 12 (g := (fun K => isFb K own_cs "Procedure")) rfl)
  is_Program := isF_ok (c.own 13 (g := (fun K => isFb K own_cs "Program")) rfl)
  neF := (alts_cons (p := fun c _ => PySem.W.findIn K (.ref (He.ga K c)) "__ne__" = some (some (.builtin "object.__ne__"))) (of_decide_eq_true (c.own 15 (g := neB "Procedure") rfl)) (alts_cons (p := fun c _ => PySem.W.findIn K (.ref (He.ga K c)) "__ne__" = some (some (.builtin "object.__ne__"))) (of_decide_eq_true (c.own 14 (g := neB "Program") rfl)) alts_nil))
  nf := nfF_ok (c.own 16 (g := nfB own_cs) rfl)
  it_str := isT_ok (c.own 17 (g := (fun K => isTb K own_cs "str")) rfl)
  s_U_containsU_ := fun c1 f1 g1 h1 => (alts_cons (p := fun c _ => ∀ g, PySem.W.findIn K (.ref (He.ga K c)) "__contains__" = some (some (.ref g)) → PySem.W.fnIn K g = true) (fnB_ok (c.own 18 (g := fnB "Program" "__contains__") rfl)) alts_nil) c1 f1 h1 g1
  s_U_getitemU_ := fun c1 f1 g1 h1 => (alts_cons (p := fun c _ => ∀ g, PySem.W.findIn K (.ref (He.ga K c)) "__getitem__" = some (some (.ref g)) → PySem.W.fnIn K g = true) (fnB_ok (c.own 19 (g := fnB "Program" "__getitem__") rfl)) alts_nil) c1 f1 h1 g1
  e_InvalidProgram := exc_mk (c.fact 78 (f := .exc "InvalidProgram") rfl) (He.glo_ok X G (c.fact 79 (f := .glo "InvalidProgram") rfl))
theorem holds (good : ∀ ns : List Int, ns.length ≤ 63 → ∃ st, f_law [.rl (ns.map .int)] [] = .ok (.bl true) st) : PySem.Challenge.rw_stepmarks_k04_programs_by_their_form.Holds := by
  w_on; o_law
  refine HandSHeadRun.head_any (r := PySem.W.OpenLaw.row PySem.Challenge.rw_stepmarks_k04_programs_by_their_form) (q := PySem.W.view (PySem.W.OpenLaw.row PySem.Challenge.rw_stepmarks_k04_programs_by_their_form).prog [43]) (H := hk) (ob := ob) (M := 8000) (loose := loose) (d := HandSHeadRun.topDef (PySem.W.OpenLaw.row PySem.Challenge.rw_stepmarks_k04_programs_by_their_form).prog 43) (kwd := []) ob_eq
    (by kernel_rfl) (fun s => by kernel_rfl) run (by kernel_rfl) (by kernel_rfl) (by kernel_rfl) (by rfl) (by first | assumption | decide +kernel) (by decide +kernel) ⟨rfl, rfl, rfl, rfl, rfl, by decide +kernel⟩ ?hw ?hc
  case hw => w_witness2
  case hc =>
    refine walk_g (l := PySem.Challenge.rw_stepmarks_k04_programs_by_their_form) (n := 63) (k := 19) (x := "script") (mf := f_law) rfl (by decide) (by kernel_rfl) ⟨rfl, by decide, by decide⟩ ?F good
    intro w mg fa h Y G hm0
    obtain ⟨K, X, c⟩ := Y
    have hm : mg ("law" : PySem.Str) = some (.ref fa) := by
      have e : (HandSHeadRun.topDef (PySem.W.OpenLaw.row PySem.Challenge.rw_stepmarks_k04_programs_by_their_form).prog 43).name = ("law" : PySem.Str) := by kernel_rfl
      rw [← e]
      exact hm0
    have F := fx_of X G c
    obtain ⟨f, fd, FN, em, eb⟩ := F.d_law
    have e1 : f = fa := by
      rw [hm] at em
      cases em
      rfl
    subst e1
    refine ⟨K, fd, X, fun s u => ?_, fun base _ _ => ?_⟩
    · exact bind_of FN (fun _ _ _ _ _ _ us hl => match us, hl with | [_], _ => rfl) s u
    · exact fng_of FN z_law (fun cd A fr s H E bd => body_law F bd)
end K04

theorem PySem.Challenge.cw_stepmarks_k04_programs_by_their_form_holds : PySem.Challenge.rw_stepmarks_k04_programs_by_their_form.Holds :=
  K04.holds K04.good
