import PyProof.Rows.All
import Wide.All
import OpenK.AllK
import Wide.FinOn
import HandS.ForMost
import HandS.ForExc
import HandS.IsInst
import HandS.TupAny
import HandS.Star
import HandS.Defaults
import HandS.Deep
import HandS.Text
import KE.GoesEnum
import HandS.Iter
import HandS.Comp
import HandS.ExcOwn
import HandS.CallSlots
import HandS.Lambda
import HandS.TryMany
import HandS.ExcField
import KE.KExcSuper
import HandS.GenList
import KE.GoesRaise
import HandS.TupSets
import HandS.HeadHook2
import HandS.HeadEnd
import PySem.Challenge.RW_takendown_k55_whole_rows_out_of_stocks
import KE.KStateDown
import Lean
import HandS.Head0
import HandS.Head1
import HandS.Head2

section
set_option Elab.async false
set_option linter.all false
set_option maxRecDepth 100000
set_option maxHeartbeats 2000000
/-! Mi: a small model over the hand layer. Values, the small heap, results, and how they stand in the hand layer's heap. -/
namespace Mi
open PySem PySem.Spec PyProof.Rows L2

/-- a small value: tuples by what they hold, lists and instances by their place in the small heap; con: a list that is never written -/
inductive MV where
  | non | bl (b : Bool) | int (i : Int) | str (x : Str) | tup (xs : List MV) | ref (n : Nat) | con (xs : List MV) | obj (c : Str) (fs : List (Str × MV)) | cdc (kvs : List (Str × MV))
  deriving Inhabited
/-- a small object -/
inductive MO where
  | lst (xs : List MV)
  | dct (kvs : List (Str × MV))
  | ins (c : Str) (fs : List (Str × MV))
  | ded
  deriving Inhabited
abbrev MH := List MO
/-- an exception: its class, what it holds -/
structure MX where
  cls : Str
  fs : List (Str × MV)
inductive Res (α : Type) where
  | ok (a : α) (h : MH)
  | exc (e : MX) (h : MH)
  | bad
abbrev MM (α : Type) := MH → Res α
abbrev ME := List (Option MV)
namespace MM
@[reducible] def ret {α : Type} (a : α) : MM α := fun h => .ok a h
@[reducible] def andThen {α β : Type} (m : MM α) (f : α → MM β) : MM β := fun h => match m h with
  | .ok a h' => f a h'
  | .exc e h' => .exc e h'
  | .bad => .bad
@[reducible] def fail {α : Type} : MM α := fun _ => .bad
end MM
instance : Monad MM where
  pure := MM.ret
  bind := MM.andThen
@[simp] theorem ret_run {α : Type} (a : α) (h : MH) : (pure a : MM α) h = .ok a h := rfl
theorem bind_run {α β : Type} (m : MM α) (f : α → MM β) (h : MH) : (m >>= f) h = match m h with
  | .ok a h' => f a h'
  | .exc e h' => .exc e h'
  | .bad => .bad := rfl
def Wp {α : Type} (r : Res α) (Q : α → MH → Prop) (E : MX → MH → Prop) : Prop := match r with
  | .ok a h => Q a h
  | .exc e h => E e h
  | .bad => False
theorem Wp.mono {α : Type} {r : Res α} {Q Q' : α → MH → Prop} {E E' : MX → MH → Prop} (h : Wp r Q E) (hQ : ∀ a m, Q a m → Q' a m) (hE : ∀ e m, E e m → E' e m) : Wp r Q' E' := by
  cases r with
  | ok a m => exact hQ _ _ h
  | exc e m => exact hE _ _ h
  | bad => exact h
theorem Wp.bind {α β : Type} {m : MM α} {f : α → MM β} {h : MH} {Q : β → MH → Prop} {E : MX → MH → Prop} (w : Wp ((m >>= f) h) Q E) : Wp (m h) (fun a h' => Wp (f a h') Q E) E := by
  rw [bind_run] at w
  cases e : m h with
  | ok a m' => rw [e] at w; exact w
  | exc x m' => rw [e] at w; exact w
  | bad => rw [e] at w; exact w

/-! ### values in the hand layer's heap -/
abbrev Rho := List (Addr × Addr)
/-- the class of a name -/
abbrev Cn := Str → Addr
mutual
inductive RV (K : PySem.W.Frag) (cn : Cn) (r : Rho) (H : Hp) : MV → V → Prop
  | non : RV K cn r H .non .non
  | bl (b : Bool) : RV K cn r H (.bl b) (.bl b)
  | int (i : Int) : RV K cn r H (.int i) (.int i)
  | str (x : Str) : RV K cn r H (.str x) (.str x)
  | tup {a : Addr} {vs : List V} {ms : List MV} : SqT K H a vs → RVs K cn r H ms vs → RV K cn r H (.tup ms) (.ref a)
  | con {a : Addr} {vs : List V} {ms : List MV} : (∃ o, H a = some (.frz o (.lst vs))) → RVs K cn r H ms vs → RV K cn r H (.con ms) (.ref a)
  | ref {n : Nat} {a d : Addr} : r[n]? = some (a, d) → RV K cn r H (.ref n) (.ref a)
  | obj {a d : Addr} {c : Str} {o : Obj} {vs : List (Str × V)} {ms : List (Str × MV)} : H a = some (.frz o (.ins (cn c) d vs)) → RFs K cn r H ms vs → RV K cn r H (.obj c ms) (.ref a)
  | cdc {a : Addr} {o : Obj} {vs : List (Str × V)} {ms : List (Str × MV)} : H a = some (.frz o (.dK (vs.map fun p => (Sum.inr p.1, p.2)))) → RFs K cn r H ms vs → RV K cn r H (.cdc ms) (.ref a)
inductive RVs (K : PySem.W.Frag) (cn : Cn) (r : Rho) (H : Hp) : List MV → List V → Prop
  | nil : RVs K cn r H [] []
  | cons {m : MV} {v : V} {ms : List MV} {vs : List V} : RV K cn r H m v → RVs K cn r H ms vs → RVs K cn r H (m :: ms) (v :: vs)
inductive RFs (K : PySem.W.Frag) (cn : Cn) (r : Rho) (H : Hp) : List (Str × MV) → List (Str × V) → Prop
  | nil : RFs K cn r H [] []
  | cons {x : Str} {m : MV} {v : V} {ms : List (Str × MV)} {vs : List (Str × V)} : RV K cn r H m v → RFs K cn r H ms vs → RFs K cn r H ((x, m) :: ms) ((x, v) :: vs)
end
/-- the heap has grown, or tracked lists, dicts, instances were written -/
structure Ext (r : Rho) (H : Hp) (r' : Rho) (H' : Hp) : Prop where
  pre : ∃ t, r' = r ++ t ∧ ∀ p ∈ t, H p.1 = none
  tups : ∀ b xs, H b = some (.tup xs) → H' b = some (.tup xs)
  frzs : ∀ b o u, H b = some (.frz o u) → H' b = some (.frz o u)
  dom : ∀ b u, H b = some u → ∃ w, H' b = some w
  keep : ∀ b u, H b = some u → (∀ p ∈ r, p.1 ≠ b) → H' b = some u
theorem Ext.refl {r : Rho} {H : Hp} : Ext r H r H := ⟨⟨[], by simp, by simp⟩, fun _ _ e => e, fun _ _ _ e => e, fun _ u e => ⟨u, e⟩, fun _ _ e _ => e⟩
theorem Ext.trans {r r1 r2 : Rho} {H H1 H2 : Hp} (a : Ext r H r1 H1) (b : Ext r1 H1 r2 H2) : Ext r H r2 H2 := by
  obtain ⟨t, e, f⟩ := a.pre
  obtain ⟨u, e2, f2⟩ := b.pre
  refine ⟨⟨t ++ u, by rw [e2, e, List.append_assoc], fun p hp => ?_⟩, fun c xs q => b.tups c xs (a.tups c xs q), fun c o u q => b.frzs c o u (a.frzs c o u q), fun c v q => let ⟨_, q1⟩ := a.dom c v q; b.dom c _ q1, fun c v q n => ?_⟩
  · rcases List.mem_append.mp hp with z | z
    · exact f p z
    · have q := f2 p z
      cases h : H p.1 with
      | none => rfl
      | some v =>
        obtain ⟨w, hw⟩ := a.dom _ _ h
        rw [q] at hw
        cases hw
  · refine b.keep c v (a.keep c v q n) fun p hp => ?_
    rw [e] at hp
    rcases List.mem_append.mp hp with z | z
    · exact n p z
    · intro h
      have := f p z
      rw [h, q] at this
      cases this
theorem Ext.get {r r' : Rho} {H H' : Hp} (x : Ext r H r' H') {n : Nat} {p : Addr × Addr} (e : r[n]? = some p) : r'[n]? = some p := by
  obtain ⟨t, e2, _⟩ := x.pre
  have hn : n < r.length := (List.getElem?_eq_some_iff.mp e).1
  rw [e2, List.getElem?_append_left hn]
  exact e
/-- all that stood stands -/
theorem Ext.grow {r t : Rho} {H H' : Hp} (k : ∀ a u, H a = some u → H' a = some u) (f : ∀ p ∈ t, H p.1 = none) : Ext r H (r ++ t) H' := ⟨⟨t, rfl, f⟩, fun _ _ e => k _ _ e, fun _ _ _ e => k _ _ e, fun _ _ e => ⟨_, k _ _ e⟩, fun _ _ e _ => k _ _ e⟩
theorem Ext.grow0 {r : Rho} {H H' : Hp} (k : ∀ a u, H a = some u → H' a = some u) : Ext r H r H' := ⟨⟨[], by simp, by simp⟩, fun _ _ e => k _ _ e, fun _ _ _ e => k _ _ e, fun _ _ e => ⟨_, k _ _ e⟩, fun _ _ e _ => k _ _ e⟩
/-- all that values lean on -/
structure ExtV (r : Rho) (H : Hp) (r' : Rho) (H' : Hp) : Prop where
  get : ∀ {n : Nat} {p : Addr × Addr}, r[n]? = some p → r'[n]? = some p
  tups : ∀ b xs, H b = some (.tup xs) → H' b = some (.tup xs)
  frzs : ∀ b o u, H b = some (.frz o u) → H' b = some (.frz o u)
theorem Ext.v {r r' : Rho} {H H' : Hp} (x : Ext r H r' H') : ExtV r H r' H' := ⟨fun e => x.get e, x.tups, x.frzs⟩
theorem ExtV.refl {r : Rho} {H : Hp} : ExtV r H r H := ⟨fun e => e, fun _ _ e => e, fun _ _ _ e => e⟩
theorem ExtV.trans {r r1 r2 : Rho} {H H1 H2 : Hp} (a : ExtV r H r1 H1) (b : ExtV r1 H1 r2 H2) : ExtV r H r2 H2 := ⟨fun e => b.get (a.get e), fun c xs q => b.tups c xs (a.tups c xs q), fun c o u q => b.frzs c o u (a.frzs c o u q)⟩
theorem ExtV.sqT {K : PySem.W.Frag} {r r' : Rho} {H H' : Hp} {a : Addr} {xs : List V} (x : ExtV r H r' H') (h : SqT K H a xs) : SqT K H' a xs := by
  rcases h with (h | ⟨o, h⟩) | h
  · exact .inl (.inl (x.tups _ _ h))
  · exact .inl (.inr ⟨o, x.frzs _ _ _ h⟩)
  · exact .inr h
theorem Ext.sqT {K : PySem.W.Frag} {r r' : Rho} {H H' : Hp} {a : Addr} {xs : List V} (x : Ext r H r' H') (h : SqT K H a xs) : SqT K H' a xs := x.v.sqT h
theorem con_sq {K : PySem.W.Frag} {H : Hp} {a : Addr} {vs : List V} (h : ∃ o, H a = some (.frz o (.lst vs))) : SqL K H a vs := .inl (.inr h)
mutual
theorem RV.extV {K : PySem.W.Frag} {cn : Cn} {r r' : Rho} {H H' : Hp} (x : ExtV r H r' H') : ∀ {m : MV} {v : V}, RV K cn r H m v → RV K cn r' H' m v
  | _, _, .non => .non
  | _, _, .bl b => .bl b
  | _, _, .int i => .int i
  | _, _, .str y => .str y
  | _, _, .tup h hs => .tup (x.sqT h) (RVs.extV x hs)
  | _, _, .con ⟨o, h⟩ hs => .con ⟨o, x.frzs _ _ _ h⟩ (RVs.extV x hs)
  | _, _, .ref h => .ref (x.get h)
  | _, _, .obj h hs => .obj (x.frzs _ _ _ h) (RFs.extV x hs)
  | _, _, .cdc h hs => .cdc (x.frzs _ _ _ h) (RFs.extV x hs)
theorem RVs.extV {K : PySem.W.Frag} {cn : Cn} {r r' : Rho} {H H' : Hp} (x : ExtV r H r' H') : ∀ {ms : List MV} {vs : List V}, RVs K cn r H ms vs → RVs K cn r' H' ms vs
  | _, _, .nil => .nil
  | _, _, .cons a b => .cons (RV.extV x a) (RVs.extV x b)
theorem RFs.extV {K : PySem.W.Frag} {cn : Cn} {r r' : Rho} {H H' : Hp} (x : ExtV r H r' H') : ∀ {ms : List (Str × MV)} {vs : List (Str × V)}, RFs K cn r H ms vs → RFs K cn r' H' ms vs
  | _, _, .nil => .nil
  | _, _, .cons a b => .cons (RV.extV x a) (RFs.extV x b)
end
theorem RV.ext {K : PySem.W.Frag} {cn : Cn} {r r' : Rho} {H H' : Hp} (x : Ext r H r' H') {m : MV} {v : V} (h : RV K cn r H m v) : RV K cn r' H' m v := h.extV x.v
theorem RVs.ext {K : PySem.W.Frag} {cn : Cn} {r r' : Rho} {H H' : Hp} (x : Ext r H r' H') {ms : List MV} {vs : List V} (h : RVs K cn r H ms vs) : RVs K cn r' H' ms vs := h.extV x.v
theorem RFs.ext {K : PySem.W.Frag} {cn : Cn} {r r' : Rho} {H H' : Hp} (x : Ext r H r' H') {ms : List (Str × MV)} {vs : List (Str × V)} (h : RFs K cn r H ms vs) : RFs K cn r' H' ms vs := h.extV x.v
theorem RVs.length {K : PySem.W.Frag} {cn : Cn} {r : Rho} {H : Hp} : ∀ {ms : List MV} {vs : List V}, RVs K cn r H ms vs → ms.length = vs.length
  | _, _, .nil => rfl
  | _, _, .cons _ b => by simp [RVs.length b]
theorem RVs.get {K : PySem.W.Frag} {cn : Cn} {r : Rho} {H : Hp} : ∀ {ms : List MV} {vs : List V} {i : Nat} {m : MV}, RVs K cn r H ms vs → ms[i]? = some m → ∃ v, vs[i]? = some v ∧ RV K cn r H m v
  | _, _, _, _, .nil, e => by simp at e
  | _, _, 0, _, .cons a _, e => by simp at e; subst e; exact ⟨_, rfl, a⟩
  | _, _, i + 1, m, .cons _ b, e => by
    obtain ⟨v, h1, h2⟩ := RVs.get (i := i) (m := m) b (by simpa using e)
    exact ⟨v, by simpa using h1, h2⟩
theorem RVs.getV {K : PySem.W.Frag} {cn : Cn} {r : Rho} {H : Hp} : ∀ {ms : List MV} {vs : List V} {i : Nat} {v : V}, RVs K cn r H ms vs → vs[i]? = some v → ∃ m, ms[i]? = some m ∧ RV K cn r H m v
  | _, _, _, _, .nil, e => by simp at e
  | _, _, 0, _, .cons a _, e => by simp at e; subst e; exact ⟨_, rfl, a⟩
  | _, _, i + 1, v, .cons _ b, e => by
    obtain ⟨m, h1, h2⟩ := RVs.getV (i := i) (v := v) b (by simpa using e)
    exact ⟨m, by simpa using h1, h2⟩
theorem RVs.app {K : PySem.W.Frag} {cn : Cn} {r : Rho} {H : Hp} : ∀ {ms ns : List MV} {vs us : List V}, RVs K cn r H ms vs → RVs K cn r H ns us → RVs K cn r H (ms ++ ns) (vs ++ us)
  | _, _, _, _, .nil, b => b
  | _, _, _, _, .cons a t, b => .cons a (RVs.app t b)
theorem RVs.take {K : PySem.W.Frag} {cn : Cn} {r : Rho} {H : Hp} : ∀ {ms : List MV} {vs : List V} (n : Nat), RVs K cn r H ms vs → RVs K cn r H (ms.take n) (vs.take n)
  | _, _, 0, _ => .nil
  | _, _, _ + 1, .nil => .nil
  | _, _, n + 1, .cons a t => .cons a (RVs.take n t)
theorem RVs.drop {K : PySem.W.Frag} {cn : Cn} {r : Rho} {H : Hp} : ∀ {ms : List MV} {vs : List V} (n : Nat), RVs K cn r H ms vs → RVs K cn r H (ms.drop n) (vs.drop n)
  | _, _, 0, h => h
  | _, _, _ + 1, .nil => .nil
  | _, _, n + 1, .cons a t => RVs.drop n t
theorem RVs.one {K : PySem.W.Frag} {cn : Cn} {r : Rho} {H : Hp} {m : MV} {v : V} (h : RV K cn r H m v) : RVs K cn r H [m] [v] := .cons h .nil
theorem RVs.set {K : PySem.W.Frag} {cn : Cn} {r : Rho} {H : Hp} {m : MV} {v : V} (h : RV K cn r H m v) : ∀ {ms : List MV} {vs : List V} (n : Nat), RVs K cn r H ms vs → RVs K cn r H (ms.set n m) (vs.set n v)
  | _, _, _, .nil => .nil
  | _, _, 0, .cons a t => .cons h t
  | _, _, n + 1, .cons a t => .cons a (RVs.set h n t)

/-! ### objects -/
/-- how a small object stands at (a, d) -/
inductive ROb (K : PySem.W.Frag) (cn : Cn) (r : Rho) (H : Hp) : MO → Addr × Addr → Prop
  | lst {ms : List MV} {vs : List V} {a d : Addr} : H a = some (.lst vs) → RVs K cn r H ms vs → ROb K cn r H (.lst ms) (a, d)
  | dct {ms : List (Str × MV)} {vs : List (Str × V)} {a d : Addr} : H a = some (.dK (vs.map fun p => (Sum.inr p.1, p.2))) → RFs K cn r H ms vs → ROb K cn r H (.dct ms) (a, d)
  | ins {c : Str} {ms : List (Str × MV)} {vs : List (Str × V)} {a d : Addr} : H a = some (.ins (cn c) d vs) → RFs K cn r H ms vs → ROb K cn r H (.ins c ms) (a, d)
  | ded {a d : Addr} {o : Obj} {u : HO} : H a = some (.frz o u) → ROb K cn r H .ded (a, d)
/-- the small heap stands in H -/
structure HR (K : PySem.W.Frag) (cn : Cn) (r : Rho) (m : MH) (H : Hp) : Prop where
  len : r.length = m.length
  at_ : ∀ (i : Nat) (o : MO) (p : Addr × Addr), m[i]? = some o → r[i]? = some p → ROb K cn r H o p
  inj : ∀ (i j : Nat) (p q : Addr × Addr), r[i]? = some p → r[j]? = some q → p.1 = q.1 → i = j
theorem ROb.some_ {K : PySem.W.Frag} {cn : Cn} {r : Rho} {H : Hp} {o : MO} {p : Addr × Addr} (h : ROb K cn r H o p) : ∃ u, H p.1 = some u := by
  cases h with
  | lst e _ => exact ⟨_, e⟩
  | dct e _ => exact ⟨_, e⟩
  | ins e _ => exact ⟨_, e⟩
  | ded e => exact ⟨_, e⟩
theorem HR.get {K : PySem.W.Frag} {cn : Cn} {r : Rho} {m : MH} {H : Hp} (h : HR K cn r m H) {i : Nat} {p : Addr × Addr} (e : r[i]? = some p) : ∃ o, m[i]? = some o ∧ ROb K cn r H o p := by
  have hi : i < m.length := by rw [← h.len]; exact (List.getElem?_eq_some_iff.mp e).1
  exact ⟨m[i], List.getElem?_eq_getElem hi, h.at_ i _ p (List.getElem?_eq_getElem hi) e⟩
/-- fields by name -/
theorem RFs.lookup {K : PySem.W.Frag} {cn : Cn} {r : Rho} {H : Hp} {x : Str} : ∀ {ms : List (Str × MV)} {vs : List (Str × V)} {m : MV}, RFs K cn r H ms vs → ms.lookup x = some m → ∃ v, vs.lookup x = some v ∧ RV K cn r H m v
  | _, _, _, .nil, e => by simp at e
  | _, _, m, .cons (x := y) a b, e => by
    rw [List.lookup_cons] at e ⊢
    cases q : (x == y) with
    | true => rw [q] at e; cases e; exact ⟨_, rfl, a⟩
    | false => rw [q] at e; exact RFs.lookup b e
theorem RFs.none_ {K : PySem.W.Frag} {cn : Cn} {r : Rho} {H : Hp} {x : Str} : ∀ {ms : List (Str × MV)} {vs : List (Str × V)}, RFs K cn r H ms vs → ms.lookup x = none → vs.lookup x = none
  | _, _, .nil, e => by simp
  | _, _, .cons (x := y) a b, e => by
    rw [List.lookup_cons] at e ⊢
    cases q : (x == y) with
    | true => rw [q] at e; cases e
    | false => rw [q] at e; exact RFs.none_ b e

/-! ### new objects, objects written -/
section
variable {K : PySem.W.Frag} {cn : Cn} {r : Rho} {m : MH} {H : Hp}
theorem HR.fresh (h : HR K cn r m H) {p : Addr} (hp : H p = none) {i : Nat} {q : Addr × Addr} (e : r[i]? = some q) : q.1 ≠ p := fun z => by
  obtain ⟨o, _, ho⟩ := h.get e
  obtain ⟨u, hu⟩ := ho.some_
  rw [z, hp] at hu
  cases hu
theorem upd_old {p : Addr} {o : HO} (hp : H p = none) : ∀ a u, H a = some u → upd H p o a = some u := fun a u e => by
  rw [upd_ne (ne_of_none e hp)]; exact e
theorem ext_tup {p : Addr} {vs : List V} (hp : H p = none) : Ext r H r (upd H p (.tup vs)) := .grow0 (upd_old hp)
theorem ROb.keep {r' : Rho} {H' : Hp} {o : MO} {p : Addr × Addr} (h : ROb K cn r H o p) (x : Ext r H r' H') (k : H' p.1 = H p.1) : ROb K cn r' H' o p := by
  cases h with
  | lst e t => exact .lst (k.trans e) (t.ext x)
  | dct e t => exact .dct (k.trans e) (t.ext x)
  | ins e t => exact .ins (k.trans e) (t.ext x)
  | ded e => exact .ded (k.trans e)
theorem HR.keep {H' : Hp} (h : HR K cn r m H) (x : Ext r H r H') (k : ∀ a u, H a = some u → H' a = some u) : HR K cn r m H' :=
  ⟨h.len, fun i o p e1 e2 => by
    have ho := h.at_ i o p e1 e2
    obtain ⟨u, hu⟩ := ho.some_
    exact ho.keep x ((k _ _ hu).trans hu.symm), h.inj⟩
theorem HR.tup (h : HR K cn r m H) {p : Addr} {vs : List V} (hp : H p = none) : HR K cn r m (upd H p (.tup vs)) := h.keep (ext_tup hp) (upd_old hp)
/-- a new object: u at p (other objects may have been laid on the way to H1) -/
theorem HR.alloc (h : HR K cn r m H) {p d : Addr} {H1 : Hp} {o : MO} (hp : H p = none) (k : ∀ a u, H a = some u → H1 a = some u) (hx : Ext r H (r ++ [(p, d)]) H1) (ho : ROb K cn (r ++ [(p, d)]) H1 o (p, d)) :
    HR K cn (r ++ [(p, d)]) (m ++ [o]) H1 := by
  refine ⟨by simp [h.len], fun i o' q e1 e2 => ?_, fun i j q q' e1 e2 e => ?_⟩
  · by_cases hi : i < r.length
    · rw [List.getElem?_append_left hi] at e2
      rw [List.getElem?_append_left (by rw [← h.len]; exact hi)] at e1
      have ho' := h.at_ i o' q e1 e2
      obtain ⟨u, hu⟩ := ho'.some_
      exact ho'.keep hx ((k _ _ hu).trans hu.symm)
    · have hl : i < (r ++ [(p, d)]).length := (List.getElem?_eq_some_iff.mp e2).1
      have hi' : i = r.length := by simp at hl; omega
      subst hi'
      rw [List.getElem?_append_right (Nat.le_refl _)] at e2
      rw [h.len, List.getElem?_append_right (Nat.le_refl _)] at e1
      simp at e1 e2
      subst e1 e2
      exact ho
  · have far : ∀ i q, (r ++ [(p, d)])[i]? = some q → (i < r.length ∧ r[i]? = some q) ∨ (i = r.length ∧ q = (p, d)) := fun i q e => by
      by_cases hi : i < r.length
      · exact .inl ⟨hi, by rw [List.getElem?_append_left hi] at e; exact e⟩
      · have hl : i < (r ++ [(p, d)]).length := (List.getElem?_eq_some_iff.mp e).1
        have hi' : i = r.length := by simp at hl; omega
        subst hi'
        rw [List.getElem?_append_right (Nat.le_refl _)] at e
        simp at e
        exact .inr ⟨rfl, e.symm⟩
    rcases far i q e1 with ⟨h1, f1⟩ | ⟨h1, f1⟩ <;> rcases far j q' e2 with ⟨h2, f2⟩ | ⟨h2, f2⟩
    · exact h.inj i j q q' f1 f2 e
    · subst f2; exact absurd e (h.fresh hp f1)
    · subst f1; exact absurd e.symm (h.fresh hp f2)
    · rw [h1, h2]
theorem ext_new {p d : Addr} {o : HO} (hp : H p = none) : Ext r H (r ++ [(p, d)]) (upd H p o) := .grow (upd_old hp) fun q hq => by
  have e : q = (p, d) := by simpa using hq
  rw [e]; exact hp
theorem HR.newL (h : HR K cn r m H) {p : Addr} {ms : List MV} {vs : List V} (hp : H p = none) (hv : RVs K cn r H ms vs) : HR K cn (r ++ [(p, 0)]) (m ++ [.lst ms]) (upd H p (.lst vs)) :=
  h.alloc hp (upd_old hp) (ext_new hp) (.lst upd_same (hv.ext (ext_new hp)))
theorem ref_new {p d : Addr} {H' : Hp} (h : HR K cn r m H) : RV K cn (r ++ [(p, d)]) H' (.ref m.length) (.ref p) := .ref (d := d) (by rw [← h.len, List.getElem?_append_right (Nat.le_refl _)]; simp)
/-- an object is written: o is no tuple, nothing frozen -/
theorem ext_write {i : Nat} {a d : Addr} {u o : HO} (hi : r[i]? = some (a, d)) (e : H a = some u) (h1 : ∀ xs, u ≠ .tup xs) (h2 : ∀ ob y, u ≠ .frz ob y) : Ext r H r (upd H a o) := by
  refine ⟨⟨[], by simp, by simp⟩, fun b xs q => ?_, fun b ob y q => ?_, fun b v q => ?_, fun b v q n => ?_⟩
  · have hb : b ≠ a := fun z => by subst z; rw [e] at q; exact h1 xs (Option.some.inj q)
    rw [upd_ne hb]; exact q
  · have hb : b ≠ a := fun z => by subst z; rw [e] at q; exact h2 ob y (Option.some.inj q)
    rw [upd_ne hb]; exact q
  · by_cases hb : b = a
    · subst hb; exact ⟨_, upd_same⟩
    · exact ⟨v, by rw [upd_ne hb]; exact q⟩
  · have hb : b ≠ a := fun z => n _ (List.mem_of_getElem? hi) z.symm
    rw [upd_ne hb]; exact q
theorem HR.write (h : HR K cn r m H) {i : Nat} {a d : Addr} {o : MO} {u : HO} (e : r[i]? = some (a, d)) (hx : Ext r H r (upd H a u)) (ho : ROb K cn r (upd H a u) o (a, d)) : HR K cn r (m.set i o) (upd H a u) := by
  refine ⟨by simp [h.len], fun j o' q e1 e2 => ?_, h.inj⟩
  by_cases hj : j = i
  · subst hj
    have hl : j < m.length := by rw [← h.len]; exact (List.getElem?_eq_some_iff.mp e).1
    rw [List.getElem?_set_self hl] at e1
    cases e1
    rw [e] at e2
    cases e2
    exact ho
  · rw [List.getElem?_set_ne (Ne.symm hj)] at e1
    refine (h.at_ j o' q e1 e2).keep hx ?_
    exact upd_ne fun z => hj (h.inj j i q (a, d) e2 e z)
theorem HR.setL (h : HR K cn r m H) {i : Nat} {a d : Addr} {ys : List MV} {vs us : List V} (e : r[i]? = some (a, d)) (ho : H a = some (.lst vs)) (hv : RVs K cn r H ys us) :
    HR K cn r (m.set i (.lst ys)) (upd H a (.lst us)) ∧ Ext r H r (upd H a (.lst us)) := by
  have hx : Ext r H r (upd H a (.lst us)) := ext_write e ho (fun _ z => by cases z) fun _ _ z => by cases z
  exact ⟨h.write e hx (.lst upd_same (hv.ext hx)), hx⟩
end
/-- names in slots -/
def SR (K : PySem.W.Frag) (cn : Cn) (r : Rho) (H : Hp) (e : ME) (s : L2.St) : Prop := e.length = s.length ∧ ∀ (i : Nat) (m : MV), e[i]? = some (some m) → ∃ v, s[i]? = some (some v) ∧ RV K cn r H m v
section
variable {K : PySem.W.Frag} {cn : Cn} {r r' : Rho} {H H' : Hp} {e : ME} {s : L2.St}
theorem SR.ext (h : SR K cn r H e s) (x : Ext r H r' H') : SR K cn r' H' e s := ⟨h.1, fun i m q => let ⟨v, h1, h2⟩ := h.2 i m q; ⟨v, h1, h2.ext x⟩⟩
theorem SR.set (h : SR K cn r H e s) {i : Nat} {m : MV} {v : V} (hv : RV K cn r H m v) : SR K cn r H (e.set i (some m)) (s.set i (some v)) := by
  refine ⟨by simp [h.1], fun j n q => ?_⟩
  by_cases hj : j = i
  · subst hj
    have hl : j < e.length := by
      have := (List.getElem?_eq_some_iff.mp q).1
      simpa using this
    rw [List.getElem?_set_self hl] at q
    cases q
    exact ⟨v, List.getElem?_set_self (by rw [← h.1]; exact hl), hv⟩
  · rw [List.getElem?_set_ne (Ne.symm hj)] at q ⊢
    exact h.2 j n q
end
end Mi
end

section
set_option Elab.async false
set_option linter.all false
set_option maxRecDepth 100000
set_option maxHeartbeats 2000000
namespace Mi
open PySem PySem.Spec PyProof.Rows L2

/-- an exception of a class of the text: its own dict holds its fields -/
def ER (K : PySem.W.Frag) (cn : Cn) (r : Rho) (H : Hp) (e : MX) (cls : Value) (d : Option Addr) : Prop :=
  cls = .ref (cn e.cls) ∧ ((e.fs = [] ∧ d = none) ∨ ∃ a vs, d = some a ∧ H a = some (.xd vs) ∧ RFs K cn r H e.fs vs ∧ ∀ p ∈ r, p.1 ≠ a)
abbrev EM := ME → MM MV
def PostE (K : PySem.W.Frag) (cn : Cn) (r : Rho) (H : Hp) (Q : VK) (a : MV) (m : MH) : Prop := ∀ r' H' v, Ext r H r' H' → HR K cn r' m H' → RV K cn r' H' a v → Q v H'
def PostX (K : PySem.W.Frag) (cn : Cn) (W : WX) (s : L2.St) (r : Rho) (H : Hp) (x : MX) (m : MH) : Prop := ∀ r' H' cls d, Ext r H r' H' → HR K cn r' m H' → ER K cn r' H' x cls d → W cls d s H'
def PostA (K : PySem.W.Frag) (cn : Cn) (r : Rho) (H : Hp) (Q : List V → Hp → Prop) (a : List MV) (m : MH) : Prop := ∀ r' H' vs, Ext r H r' H' → HR K cn r' m H' → RVs K cn r' H' a vs → Q vs H'
def PostB (K : PySem.W.Frag) (cn : Cn) (r : Rho) (H : Hp) (Q : Bool → Hp → Prop) (b : Bool) (m : MH) : Prop := ∀ r' H', Ext r H r' H' → HR K cn r' m H' → Q b H'
section
variable {K : PySem.W.Frag} {cn : Cn} {r r1 : Rho} {H H1 : Hp} {W : WX} {s : L2.St}
theorem PostE.ext {Q : VK} {a : MV} {m : MH} (p : PostE K cn r H Q a m) (x : Ext r H r1 H1) : PostE K cn r1 H1 Q a m := fun r' H' v y => p r' H' v (x.trans y)
theorem PostX.ext {e : MX} {m : MH} (p : PostX K cn W s r H e m) (x : Ext r H r1 H1) : PostX K cn W s r1 H1 e m := fun r' H' c d y => p r' H' c d (x.trans y)
theorem PostA.ext {Q : List V → Hp → Prop} {a : List MV} {m : MH} (p : PostA K cn r H Q a m) (x : Ext r H r1 H1) : PostA K cn r1 H1 Q a m := fun r' H' v y => p r' H' v (x.trans y)
theorem PostB.ext {Q : Bool → Hp → Prop} {a : Bool} {m : MH} (p : PostB K cn r H Q a m) (x : Ext r H r1 H1) : PostB K cn r1 H1 Q a m := fun r' H' y => p r' H' (x.trans y)
end
def LE (K : PySem.W.Frag) (cn : Cn) (W : WX) (f : EM) : TE := fun s H Q => ∃ (r : Rho) (m : MH) (e : ME), SR K cn r H e s ∧ HR K cn r m H ∧ Wp (f e m) (PostE K cn r H Q) (PostX K cn W s r H)
def LA (K : PySem.W.Frag) (cn : Cn) (W : WX) (f : ME → MM (List MV)) : TA := fun s H Q => ∃ (r : Rho) (m : MH) (e : ME), SR K cn r H e s ∧ HR K cn r m H ∧ Wp (f e m) (PostA K cn r H Q) (PostX K cn W s r H)
def LT (K : PySem.W.Frag) (cn : Cn) (W : WX) (f : ME → MM Bool) : TT := fun s H Q => ∃ (r : Rho) (m : MH) (e : ME), SR K cn r H e s ∧ HR K cn r m H ∧ Wp (f e m) (PostB K cn r H Q) (PostX K cn W s r H)
abbrev JE (X : Cx) (cn : Cn) (W : WX) (e : Expr) (f : EM) : Prop := PE X e (LE X.K cn W f)
abbrev JA (X : Cx) (cn : Cn) (W : WX) (es : List Expr) (f : ME → MM (List MV)) : Prop := PA X es (LA X.K cn W f)
abbrev JT (X : Cx) (cn : Cn) (W : WX) (e : Expr) (f : ME → MM Bool) : Prop := PT X e (LT X.K cn W f)
abbrev JW (X : Cx) (cn : Cn) (W : WX) (e : Expr) (f : ME → MM Bool) : Prop := PW X e (LT X.K cn W f)
theorem pe_imp {X : Cx} {e : Expr} {t t' : TE} (h : PE X e t) (i : ∀ s H Q, t' s H Q → t s H Q) : PE X e t' := ⟨fun pins s σ H Q I q => h.run pins s σ H Q I (i _ _ _ q)⟩
theorem pa_imp {X : Cx} {e : List Expr} {t t' : TA} (h : PA X e t) (i : ∀ s H Q, t' s H Q → t s H Q) : PA X e t' := ⟨fun pos pins s σ H Q I q => h.run pos pins s σ H Q I (i _ _ _ q)⟩
theorem pt_imp {X : Cx} {e : Expr} {t t' : TT} (h : PT X e t) (i : ∀ s H Q, t' s H Q → t s H Q) : PT X e t' := ⟨fun pins s σ H Q I q => h.run pins s σ H Q I (i _ _ _ q)⟩
theorem pw_imp {X : Cx} {e : Expr} {t t' : TT} (h : PW X e t) (i : ∀ s H Q, t' s H Q → t s H Q) : PW X e t' := ⟨fun w pins s σ H Q I q => h.run w pins s σ H Q I (i _ _ _ q)⟩

section
variable {X : Cx} {cn : Cn} {W : WX} {pos : Pos}
/-! ### names, constants -/
def eVar (i : Nat) : EM := fun e => match e[i]? with
  | some (some m) => pure m
  | _ => MM.fail
theorem e_var (i : Nat) {x : Str} (hN : X.N[i]? = some x := by rfl) (hv : Vis X.env.scope x := by first | exact Or.inl rfl | exact Or.inr (Or.inl rfl) | exact Or.inr (Or.inr rfl)) (hd : (x == ("__debug__" : Str)) = false := by decide)
    (hcd : (x == ("__classdict__" : Str)) = false := by decide) : JE X cn W (.Name x pos) (eVar i) := by
  refine pe_imp (pe_var hN hv hd hcd) fun s H Q ⟨r, m, e, hs, hr, w⟩ => ?_
  unfold eVar at w
  cases q : e[i]? with
  | none => rw [q] at w; exact w.elim
  | some o =>
    cases o with
    | none => rw [q] at w; exact w.elim
    | some a =>
      rw [q] at w
      obtain ⟨v, h1, h2⟩ := hs.2 i a q
      exact ⟨v, h1, w r H v .refl hr h2⟩
def eC (a : MV) : EM := fun _ => pure a
theorem e_con {e : Expr} {v : V} {a : MV} (h : PE X e (tC v)) (hv : ∀ r H, RV X.K cn r H a v) : JE X cn W e (eC a) :=
  pe_imp h fun s H Q ⟨r, m, e, hs, hr, w⟩ => w r H v .refl hr (hv r H)
theorem e_int {i : Int} {j : Nat} : JE X cn W (.Constant (.int i) j pos) (eC (.int i)) := e_con pe_int fun _ _ => .int i
theorem e_bl {b : Bool} {j : Nat} : JE X cn W (.Constant (.bool b) j pos) (eC (.bl b)) := e_con pe_bl fun _ _ => .bl b
theorem e_non {j : Nat} : JE X cn W (.Constant .none j pos) (eC .non) := e_con pe_non fun _ _ => .non
theorem e_str {x : Str} {j : Nat} : JE X cn W (.Constant (.str x) j pos) (eC (.str x)) := e_con pe_str fun _ _ => .str x
/-- a constant of the module -/
theorem e_glob {x : Str} {a : MV} {v : V} {u : Value} (hm : X.mg x = some u) (r : RelV v u) (hv : ∀ r H, RV X.K cn r H a v) (hg : Gl X x := by rfl) (hd : (x == ("__debug__" : Str)) = false := by decide) : JE X cn W (.Name x pos) (eC a) :=
  e_con (pe_glob hg hm r hd) hv

/-! ### operators -/
def OpM (K : PySem.W.Frag) (cn : Cn) (t : R2) (h : MV → MV → MM MV) : Prop :=
  ∀ r m H a b x y Q E, HR K cn r m H → RV K cn r H a x → RV K cn r H b y → Wp (h a b m) (PostE K cn r H Q) E → t x y H Q
def eBin (h : MV → MV → MM MV) (f g : EM) : EM := fun e => do
  let x ← f e
  let y ← g e
  h x y
variable {a b : Expr} {f g : EM}
theorem le_bin {K : PySem.W.Frag} {cn : Cn} {t : R2} {h : MV → MV → MM MV} (hm : OpM K cn t h) {s : L2.St} {H : Hp} {Q : VK} (w : LE K cn W (eBin h f g) s H Q) : tOp t (LE K cn W f) (LE K cn W g) s H Q := by
  obtain ⟨r, m, e, hs, hr, w⟩ := w
  refine ⟨r, m, e, hs, hr, w.bind.mono (fun x m1 w1 r1 H1 v1 x1 hr1 hv1 => ?_) fun _ _ p => p⟩
  refine ⟨r1, m1, e, hs.ext x1, hr1, w1.bind.mono (fun y m2 w2 r2 H2 v2 x2 hr2 hv2 => ?_) fun _ _ p => p.ext x1⟩
  exact hm r2 m2 H2 x y v1 v2 Q _ hr2 (hv1.ext x2) hv2 (w2.mono (fun _ _ p => p.ext (x1.trans x2)) fun _ _ p => p)
theorem e_bin {op : Operator} {t : R2} {h : MV → MV → MM MV} (ho : OpR X (binaryOp op) t) (hm : OpM X.K cn t h) (ha : JE X cn W a f) (hb : JE X cn W b g) : JE X cn W (.BinOp a op b pos) (eBin h f g) :=
  pe_imp (pe_op ho ha hb) fun _ _ _ w => le_bin hm w
theorem e_cmp {op : CmpOp} {t : R2} {h : MV → MV → MM MV} (ho : OpR X (compareOp op) t) (hm : OpM X.K cn t h) (ha : JE X cn W a f) (hb : JE X cn W b g) (hk : behindInMarks op b = false := by first | rfl | exact nomark _) : JE X cn W (.Compare a [op] [b] pos) (eBin h f g) :=
  pe_imp (pe_cmpR ho ha hb hk) fun _ _ _ w => le_bin hm w
/-- a value that must be a bool -/
def asB (m : MV) : MM Bool := match m with
  | .bl b => pure b
  | _ => MM.fail
def tOf (f : EM) : ME → MM Bool := fun e => do asB (← f e)
theorem lt_of {K : PySem.W.Frag} {cn : Cn} {s : L2.St} {H : Hp} {Q : Bool → Hp → Prop} (w : LT K cn W (tOf f) s H Q) : LE K cn W f s H fun x H' => ∃ k, x = .bl k ∧ Q k H' := by
  obtain ⟨r, m, e, hs, hr, w⟩ := w
  refine ⟨r, m, e, hs, hr, w.bind.mono (fun x m1 w1 r1 H1 v1 x1 hr1 hv1 => ?_) fun _ _ p => p⟩
  cases hv1 with
  | bl b => exact ⟨b, rfl, w1 r1 H1 x1 hr1⟩
  | _ => exact w1.elim
theorem t_cmp {op : CmpOp} {t : R2} {h : MV → MV → MM MV} (ho : OpR X (compareOp op) t) (hm : OpM X.K cn t h) (ha : JE X cn W a f) (hb : JE X cn W b g) (hk : behindInMarks op b = false := by first | rfl | exact nomark _) : JT X cn W (.Compare a [op] [b] pos) (tOf (eBin h f g)) := by
  refine pt_imp (pt_cmpR ho ha hb hk) fun s H Q w => ?_
  show tOp t _ _ s H _
  exact le_bin hm (lt_of w)
/-- an expression whose value is a bool, as a test -/
theorem t_val {e : Expr} (h : JE X cn W e f) (he : ∀ whole, isTrue e X.env whole = (do let v ← whole; standAt e.pos; holding [v] (truthy v)) := by intro _; rfl) : JT X cn W e (tOf f) :=
  pt_imp (pt_val h he) fun s H Q w => lt_of w
/-! ### a < b < c -/
def eChain (h h' : MV → MV → MM MV) (f g k : EM) : EM := fun e => do
  let x ← f e
  let y ← g e
  let c ← asB (← h x y)
  if c then do let z ← k e; h' y z else pure (.bl false)
theorem le_chain {K : PySem.W.Frag} {cn : Cn} {t t' : R2} {h h' : MV → MV → MM MV} {k : EM} (hm : OpM K cn t h) (hm' : OpM K cn t' h') (hp : ∀ x y m, ∀ c m', h x y m = .ok c m' → m' = m ∧ ∃ q, c = .bl q) {s : L2.St} {H : Hp} {Q : VK} (w : LE K cn W (eChain h h' f g k) s H Q) :
    tChain t t' (LE K cn W f) (LE K cn W g) (LE K cn W k) s H Q := by
  obtain ⟨r, m, e, hs, hr, w⟩ := w
  refine ⟨r, m, e, hs, hr, w.bind.mono (fun x m1 w1 r1 H1 v1 x1 hr1 hv1 => ?_) fun _ _ p => p⟩
  refine ⟨r1, m1, e, hs.ext x1, hr1, w1.bind.mono (fun y m2 w2 r2 H2 v2 x2 hr2 hv2 => ?_) fun _ _ p => p.ext x1⟩
  refine hm r2 m2 H2 x y v1 v2 _ (fun e' m' => PostX K cn W s r2 H2 e' m') hr2 (hv1.ext x2) hv2 ?_
  have w3 := w2.bind
  refine w3.mono (fun c m3 w4 r3 H3 v3 x3 hr3 hv3 => ?_) fun _ _ p => p.ext (x1.trans x2)
  cases hv3 with
  | bl q =>
    have w5 : Wp ((if q then do let z ← k e; h' y z else pure (.bl false) : MM MV) m3) (PostE K cn r H Q) (PostX K cn W s r H) := w4
    refine ⟨q, rfl, ?_⟩
    have x123 := x1.trans (x2.trans x3)
    cases q with
    | true =>
      rw [if_pos rfl] at w5 ⊢
      refine ⟨r3, m3, e, hs.ext x123, hr3, w5.bind.mono (fun z m4 w6 r4 H4 v4 x4 hr4 hv4 => ?_) fun _ _ p => p.ext x123⟩
      exact hm' r4 m4 H4 y z v2 v4 Q _ hr4 (hv2.ext (x3.trans x4)) hv4 (w6.mono (fun _ _ p => p.ext (x123.trans x4)) fun _ _ p => p)
    | false =>
      rw [if_neg Bool.false_ne_true] at w5 ⊢
      exact w5 r3 H3 _ x123 hr3 (.bl false)
  | _ => exact w4.elim
theorem e_chain {op op' : CmpOp} {t t' : R2} {h h' : MV → MV → MM MV} {c : Expr} {k : EM} (ho : OpR X (compareOp op) t) (hm : OpM X.K cn t h) (ho' : OpR X (compareOp op') t') (hm' : OpM X.K cn t' h') (hp : ∀ x y m, ∀ c m', h x y m = .ok c m' → m' = m ∧ ∃ q, c = .bl q)
    (ha : JE X cn W a f) (hb : JE X cn W b g) (hc : JE X cn W c k) (hk : lastMarks [op, op'] [b, c] = false := by rfl) : JE X cn W (.Compare a [op, op'] [b, c] pos) (eChain h h' f g k) :=
  pe_imp (pe_chain ho ho' ha hb hc hk) fun _ _ _ w => le_chain hm hm' hp w
theorem t_chain {op op' : CmpOp} {t t' : R2} {h h' : MV → MV → MM MV} {c : Expr} {k : EM} (ho : OpR X (compareOp op) t) (hm : OpM X.K cn t h) (ho' : OpR X (compareOp op') t') (hm' : OpM X.K cn t' h') (hp : ∀ x y m, ∀ c m', h x y m = .ok c m' → m' = m ∧ ∃ q, c = .bl q)
    (ha : JE X cn W a f) (hb : JE X cn W b g) (hc : JE X cn W c k) (hk : lastMarks [op, op'] [b, c] = false := by rfl) : JT X cn W (.Compare a [op, op'] [b, c] pos) (tOf (eChain h h' f g k)) :=
  pt_imp (pt_chain ho ho' ha hb hc hk) fun _ _ _ w => le_chain hm hm' hp (lt_of w)

/-! ### and, or, not; the tests -/
def tAndM (f g : ME → MM Bool) : ME → MM Bool := fun e => do if ← f e then g e else pure false
def tOrM (f g : ME → MM Bool) : ME → MM Bool := fun e => do if ← f e then pure true else g e
def tNotM (f : ME → MM Bool) : ME → MM Bool := fun e => do pure (!(← f e))
variable {rest : List Expr} {tf tg : ME → MM Bool}
theorem t_and1 (ha : JT X cn W a tf) : JW X cn W (.BoolOp .And [a] pos) tf := pw_and1 ha
theorem t_or1 (ha : JT X cn W a tf) : JW X cn W (.BoolOp .Or [a] pos) tf := pw_or1 ha
theorem t_pt {e : Expr} (h : JW X cn W e tf) : JT X cn W e tf := PW.pt h
theorem t_and (ha : JT X cn W a tf) (hb : JW X cn W (.BoolOp .And (b :: rest) pos) tg) : JW X cn W (.BoolOp .And (a :: b :: rest) pos) (tAndM tf tg) := by
  refine pw_imp (pw_and ha hb) fun s H Q ⟨r, m, e, hs, hr, w⟩ => ?_
  refine ⟨r, m, e, hs, hr, w.bind.mono (fun c m1 w1 r1 H1 x1 hr1 => ?_) fun _ _ p => p⟩
  cases c with
  | true =>
    rw [if_pos rfl] at w1 ⊢
    exact ⟨r1, m1, e, hs.ext x1, hr1, w1.mono (fun _ _ p => p.ext x1) fun _ _ p => p.ext x1⟩
  | false =>
    rw [if_neg Bool.false_ne_true] at w1 ⊢
    exact w1 r1 H1 x1 hr1
theorem t_or (ha : JT X cn W a tf) (hb : JW X cn W (.BoolOp .Or (b :: rest) pos) tg) : JW X cn W (.BoolOp .Or (a :: b :: rest) pos) (tOrM tf tg) := by
  refine pw_imp (pw_or ha hb) fun s H Q ⟨r, m, e, hs, hr, w⟩ => ?_
  refine ⟨r, m, e, hs, hr, w.bind.mono (fun c m1 w1 r1 H1 x1 hr1 => ?_) fun _ _ p => p⟩
  cases c with
  | true =>
    rw [if_pos rfl] at w1 ⊢
    exact w1 r1 H1 x1 hr1
  | false =>
    rw [if_neg Bool.false_ne_true] at w1 ⊢
    exact ⟨r1, m1, e, hs.ext x1, hr1, w1.mono (fun _ _ p => p.ext x1) fun _ _ p => p.ext x1⟩
theorem t_not (ha : JT X cn W a tf) : JT X cn W (.UnaryOp .Not a pos) (tNotM tf) := by
  refine pt_imp (pt_not ha) fun s H Q ⟨r, m, e, hs, hr, w⟩ => ?_
  exact ⟨r, m, e, hs, hr, w.bind.mono (fun c m1 w1 r1 H1 x1 hr1 => w1 r1 H1 x1 hr1) fun _ _ p => p⟩
/-- .. as values, of bools -/
def eAndM (f g : EM) : EM := fun e => do if ← asB (← f e) then g e else pure (.bl false)
def eOrM (f g : EM) : EM := fun e => do if ← asB (← f e) then pure (.bl true) else g e
def eNotM (f : EM) : EM := fun e => do pure (.bl (!(← asB (← f e))))
theorem e_one {op : BoolOp} (h : JE X cn W a f) : JE X cn W (.BoolOp op [a] pos) f := pe_one h
theorem e_and (ha : JE X cn W a f) (hb : JE X cn W (.BoolOp .And (b :: rest) pos) g) : JE X cn W (.BoolOp .And (a :: b :: rest) pos) (eAndM f g) := by
  refine pe_imp (pe_and ha hb) fun s H Q ⟨r, m, e, hs, hr, w⟩ => ?_
  refine ⟨r, m, e, hs, hr, w.bind.mono (fun c m1 w1 r1 H1 v1 x1 hr1 hv1 => ?_) fun _ _ p => p⟩
  cases hv1 with
  | bl q =>
    have w2 : Wp ((if q then g e else pure (.bl false) : MM MV) m1) (PostE X.K cn r H Q) (PostX X.K cn W s r H) := w1
    refine ⟨q, rfl, ?_⟩
    cases q with
    | true =>
      rw [if_pos rfl] at w2 ⊢
      exact ⟨r1, m1, e, hs.ext x1, hr1, w2.mono (fun _ _ p => p.ext x1) fun _ _ p => p.ext x1⟩
    | false =>
      rw [if_neg Bool.false_ne_true] at w2 ⊢
      exact w2 r1 H1 _ x1 hr1 (.bl false)
  | _ => exact w1.elim
theorem e_or (ha : JE X cn W a f) (hb : JE X cn W (.BoolOp .Or (b :: rest) pos) g) : JE X cn W (.BoolOp .Or (a :: b :: rest) pos) (eOrM f g) := by
  refine pe_imp (pe_or ha hb) fun s H Q ⟨r, m, e, hs, hr, w⟩ => ?_
  refine ⟨r, m, e, hs, hr, w.bind.mono (fun c m1 w1 r1 H1 v1 x1 hr1 hv1 => ?_) fun _ _ p => p⟩
  cases hv1 with
  | bl q =>
    have w2 : Wp ((if q then pure (.bl true) else g e : MM MV) m1) (PostE X.K cn r H Q) (PostX X.K cn W s r H) := w1
    refine ⟨q, rfl, ?_⟩
    cases q with
    | true =>
      rw [if_pos rfl] at w2 ⊢
      exact w2 r1 H1 _ x1 hr1 (.bl true)
    | false =>
      rw [if_neg Bool.false_ne_true] at w2 ⊢
      exact ⟨r1, m1, e, hs.ext x1, hr1, w2.mono (fun _ _ p => p.ext x1) fun _ _ p => p.ext x1⟩
  | _ => exact w1.elim
theorem e_not (ha : JE X cn W a f) : JE X cn W (.UnaryOp .Not a pos) (eNotM f) := by
  refine pe_imp (pe_not ha) fun s H Q ⟨r, m, e, hs, hr, w⟩ => ?_
  refine ⟨r, m, e, hs, hr, w.bind.mono (fun c m1 w1 r1 H1 v1 x1 hr1 hv1 => ?_) fun _ _ p => p⟩
  cases hv1 with
  | bl q => exact ⟨q, rfl, w1 r1 H1 _ x1 hr1 (.bl (!q))⟩
  | _ => exact w1.elim
def eIf (t : ME → MM Bool) (f g : EM) : EM := fun e => do if ← t e then f e else g e
theorem e_if {c : Expr} (hc : JT X cn W c tf) (ha : JE X cn W a f) (hb : JE X cn W b g) : JE X cn W (.IfExp c a b pos) (eIf tf f g) := by
  refine pe_imp (pe_ifExp hc ha hb) fun s H Q ⟨r, m, e, hs, hr, w⟩ => ?_
  refine ⟨r, m, e, hs, hr, w.bind.mono (fun c m1 w1 r1 H1 x1 hr1 => ?_) fun _ _ p => p⟩
  cases c with
  | true =>
    rw [if_pos rfl] at w1 ⊢
    exact ⟨r1, m1, e, hs.ext x1, hr1, w1.mono (fun _ _ p => p.ext x1) fun _ _ p => p.ext x1⟩
  | false =>
    rw [if_neg Bool.false_ne_true] at w1 ⊢
    exact ⟨r1, m1, e, hs.ext x1, hr1, w1.mono (fun _ _ p => p.ext x1) fun _ _ p => p.ext x1⟩

/-! ### arguments, tuples, lists -/
def aNil : ME → MM (List MV) := fun _ => pure []
def aCons (f : EM) (g : ME → MM (List MV)) : ME → MM (List MV) := fun e => do
  let x ← f e
  let xs ← g e
  pure (x :: xs)
/-- what a tuple or list holds -/
def itemsM (a : MV) : MM (List MV) := fun m => match a with
  | .tup xs => .ok xs m
  | .con xs => .ok xs m
  | .ref n => (match m[n]? with
    | some (.lst xs) => .ok xs m
    | _ => .bad)
  | _ => .bad
def aStar (f : EM) (g : ME → MM (List MV)) : ME → MM (List MV) := fun e => do
  let x ← f e
  let ys ← itemsM x
  let xs ← g e
  pure (ys ++ xs)
variable {es : List Expr} {af : ME → MM (List MV)}
theorem a_nil : JA X cn W [] aNil := pa_imp pa_nil fun s H Q ⟨r, m, e, hs, hr, w⟩ => w r H [] .refl hr .nil
theorem a_cons (ha : JE X cn W a f) (hb : JA X cn W es af) (hs : starEach (a :: es) X.env = (false, eval a X.env) :: starEach es X.env := by rfl) : JA X cn W (a :: es) (aCons f af) := by
  refine pa_imp (pa_cons ha hb hs) fun s H Q ⟨r, m, e, hs, hr, w⟩ => ?_
  refine ⟨r, m, e, hs, hr, w.bind.mono (fun x m1 w1 r1 H1 v1 x1 hr1 hv1 => ?_) fun _ _ p => p⟩
  refine ⟨r1, m1, e, hs.ext x1, hr1, w1.bind.mono (fun xs m2 w2 r2 H2 v2 x2 hr2 hv2 => ?_) fun _ _ p => p.ext x1⟩
  exact w2 r2 H2 _ (x1.trans x2) hr2 (.cons (hv1.ext x2) hv2)
/-- what stands behind a value that holds items -/
theorem items_at {K : PySem.W.Frag} {cn : Cn} {r : Rho} {m m1 : MH} {H : Hp} {a : MV} {v : V} {xs : List MV} (hr : HR K cn r m H) (hv : RV K cn r H a v) (e : itemsM a m = .ok xs m1) :
    m1 = m ∧ ∃ p vs, v = .ref p ∧ (SqT K H p vs ∨ SqL K H p vs) ∧ RVs K cn r H xs vs := by
  unfold itemsM at e
  cases hv with
  | tup h t => cases e; exact ⟨rfl, _, _, rfl, .inl h, t⟩
  | con h t =>
    cases e
    exact ⟨rfl, _, _, rfl, .inr (con_sq h), t⟩
  | ref h =>
    rename_i n p d
    obtain ⟨o, h1, h2⟩ := hr.get h
    simp only [h1] at e
    cases h2 with
    | lst h3 t => simp only at e; cases e; exact ⟨rfl, _, _, rfl, .inr (SqL.of h3), t⟩
    | dct h3 t => cases e
    | ins h3 t => cases e
    | ded h3 => cases e
  | _ => cases e
theorem a_star {p : Pos} (ha : JE X cn W a f) (hb : JA X cn W es af) (hs : starEach (.Starred a p :: es) X.env = (true, eval a X.env) :: starEach es X.env := by rfl) : JA X cn W (.Starred a p :: es) (aStar f af) := by
  refine pa_imp (StX.pa_star ha hb hs) fun s H Q ⟨r, m, e, hs, hr, w⟩ => ?_
  refine ⟨r, m, e, hs, hr, w.bind.mono (fun x m1 w1 r1 H1 v1 x1 hr1 hv1 => ?_) fun _ _ p => p⟩
  have w2 := w1.bind
  cases q : itemsM x m1 with
  | bad => rw [q] at w2; exact w2.elim
  | exc x' m' =>
    exfalso
    unfold itemsM at q
    split at q <;> first | cases q | (split at q <;> cases q)
  | ok ys m' =>
    rw [q] at w2
    obtain ⟨rfl, p, vs, rfl, hq, hys⟩ := items_at hr1 hv1 q
    have w2 : Wp ((do let xs ← af e; pure (ys ++ xs) : MM (List MV)) m') _ _ := w2
    refine ⟨p, vs, rfl, hq, r1, m', e, hs.ext x1, hr1, w2.bind.mono (fun xs m2 w3 r2 H2 v2 x2 hr2 hv2 => ?_) fun _ _ p => p.ext x1⟩
    exact w3 r2 H2 _ (x1.trans x2) hr2 ((hys.ext x2).app hv2)
/-! ### a new thing is held for good -/
/-- the new thing is never written again -/
def LkQ (Q : VK) : VK := fun v H1 => ∃ d u, v = .ref d ∧ H1 d = some u ∧ Mut (some u) ∧ ∀ od, Q v (upd H1 d (.frz od u))
theorem ep_lock {pins : List (Addr × Obj)} {σ : L2.St} {Q : VK} {u : Value} {s' : Shared} (h : EP X pins σ (LkQ Q) u s') : EP X pins σ Q u s' := by
  obtain ⟨v, H', I, rv, d, o, e, h1, mu, q⟩ := h
  obtain ⟨od, I2⟩ := I.lock h1 mu
  exact ⟨v, _, I2, rv, q od⟩
theorem pe_lk {e : Expr} {t : TE} (h : PE X e t) : PE X e (fun s H Q => t s H (LkQ Q)) := ⟨fun pins s σ H Q I q => thn (h.run pins s σ H _ I q) fun _ _ w => ep_lock w⟩
theorem frz_old {p : Addr} {H : Hp} {o : Obj} {u w : HO} (hp : H p = none) : ∀ a v, H a = some v → upd (upd H p w) p (.frz o u) a = some v := by
  rw [upd_upd]
  exact upd_old hp
theorem ext_frz {r : Rho} {p : Addr} {H : Hp} {o : Obj} {u w : HO} (hp : H p = none) : Ext r H r (upd (upd H p w) p (.frz o u)) := .grow0 (frz_old hp)
/-- a new list at q, held for good -/
theorem lkq_list {K : PySem.W.Frag} {cn : Cn} {r : Rho} {m : MH} {H : Hp} {Q : VK} {ms : List MV} {vs : List V} (hr : HR K cn r m H) (t : RVs K cn r H ms vs) (p : PostE K cn r H Q (.con ms) m) : ∀ q, H q = none → LkQ Q (.ref q) (upd H q (.lst vs)) := fun q hq =>
  ⟨q, .lst vs, rfl, upd_same, True.intro, fun od => p r _ _ (ext_frz hq) (hr.keep (ext_frz hq) (frz_old hq)) (.con ⟨od, upd_same⟩ (t.ext (ext_frz hq)))⟩
/-- the items of a list -/
def lstM (m : MH) : MV → Option (List MV)
  | .con xs => some xs
  | .ref n => (match m[n]? with
    | some (.lst xs) => some xs
    | _ => none)
  | _ => none
theorem lst_at {K : PySem.W.Frag} {cn : Cn} {r : Rho} {m : MH} {H : Hp} {a : MV} {v : V} {xs : List MV} (hr : HR K cn r m H) (hv : RV K cn r H a v) (e : lstM m a = some xs) : ∃ p vs, v = .ref p ∧ Rd H p (.lst vs) ∧ RVs K cn r H xs vs := by
  unfold lstM at e
  cases hv with
  | con h t => cases e; exact ⟨_, _, rfl, .inr h, t⟩
  | ref h =>
    obtain ⟨o, h1, h2⟩ := hr.get h
    simp only [h1] at e
    cases h2 with
    | lst h3 t => cases e; exact ⟨_, _, rfl, .inl h3, t⟩
    | dct h3 t => cases e
    | ins h3 t => cases e
    | ded h3 => cases e
  | _ => cases e
def eTup (af : ME → MM (List MV)) : EM := fun e => do
  let xs ← af e
  if xs.length ≤ sizeLine then pure (.tup xs) else MM.fail
def newL (xs : List MV) : MM MV := fun m => .ok (.ref m.length) (m ++ [.lst xs])
def eLstC (af : ME → MM (List MV)) : EM := fun e => do
  let xs ← af e
  if xs.length ≤ sizeLine then pure (.con xs) else MM.fail
def eLst (af : ME → MM (List MV)) : EM := fun e => do
  let xs ← af e
  if xs.length ≤ sizeLine then newL xs else MM.fail
theorem e_tup {x1 : Nat} (h : JA X cn W es af) : JE X cn W (.Tuple es x1 pos) (eTup af) := by
  refine pe_imp (pe_tup h) fun s H Q ⟨r, m, e, hs, hr, w⟩ => ?_
  refine ⟨r, m, e, hs, hr, w.bind.mono (fun xs m1 w1 r1 H1 vs x1 hr1 hv => ?_) fun _ _ p => p⟩
  by_cases hz : xs.length ≤ sizeLine
  · rw [if_pos hz] at w1
    refine ⟨by rw [← hv.length]; exact hz, fun p hp => ?_⟩
    have x2 : Ext r1 H1 r1 (upd H1 p (.tup vs)) := ext_tup hp
    exact w1 r1 _ _ (x1.trans x2) (hr1.tup hp) (.tup (SqT.of upd_same) (hv.ext x2))
  · rw [if_neg hz] at w1
    exact w1.elim
theorem e_lst (h : JA X cn W es af) : JE X cn W (.List es pos) (eLst af) := by
  refine pe_imp (pe_lst h) fun s H Q ⟨r, m, e, hs, hr, w⟩ => ?_
  refine ⟨r, m, e, hs, hr, w.bind.mono (fun xs m1 w1 r1 H1 vs x1 hr1 hv => ?_) fun _ _ p => p⟩
  by_cases hz : xs.length ≤ sizeLine
  · rw [if_pos hz] at w1
    refine ⟨by rw [← hv.length]; exact hz, fun p hp => ?_⟩
    exact w1 _ _ _ (x1.trans (ext_new (d := 0) hp)) (hr1.newL hp hv) (ref_new hr1)
  · rw [if_neg hz] at w1
    exact w1.elim
theorem e_lstC (h : JA X cn W es af) : JE X cn W (.List es pos) (eLstC af) := by
  refine pe_imp (pe_lk (pe_lst h)) fun s H Q ⟨r, m, e, hs, hr, w⟩ => ?_
  refine ⟨r, m, e, hs, hr, w.bind.mono (fun xs m1 w1 r1 H1 vs x1 hr1 hv => ?_) fun _ _ p => p⟩
  by_cases hz : xs.length ≤ sizeLine
  · rw [if_pos hz] at w1
    exact ⟨by rw [← hv.length]; exact hz, lkq_list hr1 hv (PostE.ext w1 x1)⟩
  · rw [if_neg hz] at w1
    exact w1.elim
end
end Mi
end

section
set_option Elab.async false
set_option linter.all false
set_option maxRecDepth 100000
set_option maxHeartbeats 2000000
namespace Mi
open PySem PySem.Spec PyProof.Rows L2

/-! ### operators that raise nothing -/
abbrev OP2 := MV → MV → MH → Option (MV × MH)
def lift2 (h : OP2) (a b : MV) : MM MV := fun m => match h a b m with
  | some (c, m') => .ok c m'
  | none => .bad
def RM (K : PySem.W.Frag) (cn : Cn) (h : OP2) : R2 := fun x y H Q => ∃ r m a b c m', HR K cn r m H ∧ RV K cn r H a x ∧ RV K cn r H b y ∧ h a b m = some (c, m') ∧ PostE K cn r H Q c m'
theorem opM_of {K : PySem.W.Frag} {cn : Cn} {h : OP2} : OpM K cn (RM K cn h) (lift2 h) := fun r m H a b x y Q E hr ha hb w => by
  unfold lift2 at w
  cases e : h a b m with
  | none => rw [e] at w; exact w.elim
  | some p => rw [e] at w; exact ⟨r, m, a, b, p.1, p.2, hr, ha, hb, e, w⟩
section
variable {X : Cx} {cn : Cn} {W : WX} {pos : Pos} {a b : Expr} {f g : EM}
theorem e_bin2 {op : Operator} {h : OP2} (ho : OpR X (binaryOp op) (RM X.K cn h)) (ha : JE X cn W a f) (hb : JE X cn W b g) : JE X cn W (.BinOp a op b pos) (eBin (lift2 h) f g) := e_bin ho opM_of ha hb
theorem e_cmp2 {op : CmpOp} {h : OP2} (ho : OpR X (compareOp op) (RM X.K cn h)) (ha : JE X cn W a f) (hb : JE X cn W b g) (hk : behindInMarks op b = false := by first | rfl | exact nomark _) : JE X cn W (.Compare a [op] [b] pos) (eBin (lift2 h) f g) := e_cmp ho opM_of ha hb hk
theorem t_cmp2 {op : CmpOp} {h : OP2} (ho : OpR X (compareOp op) (RM X.K cn h)) (ha : JE X cn W a f) (hb : JE X cn W b g) (hk : behindInMarks op b = false := by first | rfl | exact nomark _) : JT X cn W (.Compare a [op] [b] pos) (tOf (eBin (lift2 h) f g)) := t_cmp ho opM_of ha hb hk

/-! ### the values of numbers, texts .. -/
theorem rv_int {K : PySem.W.Frag} {cn : Cn} {r : Rho} {H : Hp} {i : Int} {v : V} (h : RV K cn r H (.int i) v) : v = .int i := by cases h; rfl
theorem rv_str {K : PySem.W.Frag} {cn : Cn} {r : Rho} {H : Hp} {i : Str} {v : V} (h : RV K cn r H (.str i) v) : v = .str i := by cases h; rfl
theorem rv_bl {K : PySem.W.Frag} {cn : Cn} {r : Rho} {H : Hp} {i : Bool} {v : V} (h : RV K cn r H (.bl i) v) : v = .bl i := by cases h; rfl
theorem rv_non {K : PySem.W.Frag} {cn : Cn} {r : Rho} {H : Hp} {v : V} (h : RV K cn r H .non v) : v = .non := by cases h; rfl

def addO : OP2 := fun a b m => match a, b with
  | .int i, .int j => some (.int (i + j), m)
  | .str x, .str y => if x.length + y.length ≤ sizeLine then some (.str (x ++ y), m) else none
  | .tup xs, .tup ys => if xs.length + ys.length ≤ sizeLine then some (.tup (xs ++ ys), m) else none
  | a, b => (match lstM m a, lstM m b with
    | some xs, some ys => if xs.length + ys.length ≤ sizeLine then some (.con (xs ++ ys), m) else none
    | _, _ => none)
theorem op_catL : OpR X (binaryOp .Add) (fun x y H Q => ∃ l b xs zs, x = .ref l ∧ y = .ref b ∧ Rd H l (.lst xs) ∧ Rd H b (.lst zs) ∧ xs.length + zs.length ≤ sizeLine ∧ ∀ p, H p = none → Q (.ref p) (upd H p (.lst (xs ++ zs)))) := by
  intro pins s σ H x y v u Q I rx ry h
  obtain ⟨l, b, xs, zs, rfl, rfl, hH, hB, hz, q⟩ := h
  cases rx
  cases ry
  obtain ⟨z, its, n, r, e⟩ := hH.ok I.hok
  obtain ⟨z2, its2, n2, r2, e2⟩ := hB.ok I.hok
  have hl := r.length
  have hl2 := r2.length
  refine PySem.P.add_list e e2 ?_ (by rw [List.size_toArray, List.size_toArray]; omega)
  have ea : its.toArray ++ its2.toArray = (its ++ its2).toArray := by simp
  rw [ea]
  exact ⟨.ref _, _, I.lnew (t' := s.toks) (r.append r2) (by rw [List.length_append]; omega), rfl, q _ I.fresh⟩
theorem op_repL : OpR X (binaryOp .Mult) (fun x y H Q => ∃ l k xs, x = .ref l ∧ y = .int k ∧ Rd H l (.lst xs) ∧ -(2 ^ 63) ≤ k ∧ k < 2 ^ 63 ∧ xs.length * k.toNat ≤ sizeLine ∧
    ∀ p, H p = none → Q (.ref p) (upd H p (.lst (List.replicate k.toNat xs).flatten))) := by
  intro pins s σ H x y v u Q I rx ry h
  obtain ⟨l, k, xs, rfl, rfl, hH, h1, h2, hz, q⟩ := h
  rcases hH with hH | ⟨o, hH⟩
  · exact op_rep pins s σ H _ _ v u Q I rx ry ⟨l, k, xs, rfl, rfl, hH, h1, h2, hz, q⟩
  · have hn := I.hok l _ hH
    cases rx
    obtain ⟨t, rfl⟩ := ry
    obtain ⟨_, z, its, n, r, e⟩ := hn
    have hl := r.length
    have hlen : its.toArray.size * k.toNat ≤ sizeLine := by rw [List.size_toArray, ← hl]; exact hz
    have hcap : ¬ its.toArray.size * k.toNat > (2 ^ 63 - 1) / 8 := by
      have : (sizeLine : Nat) ≤ (2 ^ 63 - 1) / 8 := by decide
      omega
    have hfit : ¬ (!Builtin.List.listFitsIndex k) = true := by
      rw [fitsIndex_both h1 h2]
      exact Bool.false_ne_true
    have hlong : ¬ Builtin.List.listTooLong (its.toArray.size * k.toNat) = true := by
      rw [notLongL hlen]
      exact Bool.false_ne_true
    have hnew : List.foldl (fun x1 x2 => x1 ++ x2) #[] (List.replicate (if its.toArray.isEmpty = true then 0 else k.toNat) its.toArray) = (List.replicate k.toNat its).flatten.toArray := by
      have f0 : ∀ m : Nat, List.foldl (fun x1 x2 => x1 ++ x2) #[] (List.replicate m its.toArray) = (List.replicate m its).flatten.toArray := fun m => by
        have := foldl_rep its m []
        rw [List.nil_append] at this
        exact this
      rw [f0]
      cases its with
      | nil => simp
      | cons a r' => rw [if_neg (by simp)]
    refine wpAny_binaryOp_repeat_ref (T := "list") (U := "int") (by decide) ⟨_, e, rfl⟩ (fun s' => typeIs_int s' k t) noFill_list_mul F.fills_int_mul F.slot_int_rmul repeat_list F.slot_int_index.lookup
      (call_meets F.slot_int_rmul (typeIs_int s k t) F.entry_int_rmul (F.args_int_rmul_2 _ _) (int___rmul___int_list k t l its.toArray n)
        ⟨e, rfl, ⟨_, e, rfl⟩, call_meets F.slot_list_mul ⟨_, e, rfl⟩ F.entry_list_mul (F.args_list_mul_2 _ _) (AutoListH.list___mul___list_int_3 l its.toArray n k t hfit hcap hlong) ⟨e, ?_⟩⟩)
    rw [hnew]
    exact ⟨.ref _, _, I.lnew (t' := s.toks) (r.rep k.toNat) (by rw [PyProof.Rows.lm_len_rep_flat, Nat.mul_comm]; exact hz), rfl, q _ I.fresh⟩
theorem op_addM : OpR X (binaryOp .Add) (RM X.K cn addO) := by
  intro pins s σ H x y v u Q I rx ry h
  obtain ⟨r, m, a, b, c, m', hr, ha, hb, e, p⟩ := h
  unfold addO at e
  split at e
  · cases e
    rw [rv_int ha] at rx
    rw [rv_int hb] at ry
    exact op_add pins s σ H _ _ v u Q I rx ry ⟨_, _, rfl, rfl, p r H _ .refl hr (.int _)⟩
  · split at e
    · cases e
      rw [rv_str ha] at rx
      rw [rv_str hb] at ry
      exact op_add_str pins s σ H _ _ v u Q I rx ry ⟨_, _, rfl, rfl, by assumption, p r H _ .refl hr (.str _)⟩
    · cases e
  · split at e
    · rename_i xs ys hz
      cases e
      cases ha with
      | tup h1 t1 =>
        cases hb with
        | tup h2 t2 =>
          refine op_catA pins s σ H _ _ v u Q I rx ry ⟨_, _, _, _, rfl, rfl, h1, h2, by rw [← t1.length, ← t2.length]; exact hz, fun z => ?_, fun _ z => ?_, fun _ _ q hq => ?_⟩
          · subst z
            cases t1
            exact p r H _ .refl hr (.tup h2 t2)
          · subst z
            cases t2
            rw [List.append_nil] at p
            exact p r H _ .refl hr (.tup h1 t1)
          · exact p r _ _ (ext_tup hq) (hr.tup hq) (.tup (SqT.of upd_same) ((t1.app t2).ext (ext_tup hq)))
    · cases e
  · split at e
    · rename_i xs ys e1 e2
      split at e
      · rename_i hz
        cases e
        obtain ⟨p1, vs1, rfl, l1, t1⟩ := lst_at hr ha e1
        obtain ⟨p2, vs2, rfl, l2, t2⟩ := lst_at hr hb e2
        exact thn (op_catL pins s σ H _ _ v u (LkQ Q) I rx ry ⟨_, _, _, _, rfl, rfl, l1, l2, by rw [← t1.length, ← t2.length]; exact hz, lkq_list hr (t1.app t2) p⟩) fun _ _ w => ep_lock w
      · cases e
    · cases e
def subO : OP2 := fun a b m => match a, b with
  | .int i, .int j => some (.int (i - j), m)
  | _, _ => none
theorem op_subM : OpR X (binaryOp .Sub) (RM X.K cn subO) := by
  intro pins s σ H x y v u Q I rx ry h
  obtain ⟨r, m, a, b, c, m', hr, ha, hb, e, p⟩ := h
  unfold subO at e
  split at e
  · cases e
    rw [rv_int ha] at rx
    rw [rv_int hb] at ry
    exact op_sub pins s σ H _ _ v u Q I rx ry ⟨_, _, rfl, rfl, p r H _ .refl hr (.int _)⟩
  · cases e
/-- a product: one factor is small; a list so many times -/
def mulO : OP2 := fun a b m => match a, b with
  | .int i, .int j => if (-(2 ^ 64) < i ∧ i < 2 ^ 64) ∨ (-(2 ^ 64) < j ∧ j < 2 ^ 64) then some (.int (i * j), m) else none
  | a, .int k => (match lstM m a with
    | some xs => if -(2 ^ 63) ≤ k ∧ k < 2 ^ 63 ∧ xs.length * k.toNat ≤ sizeLine then some (.con (List.replicate k.toNat xs).flatten, m) else none
    | _ => none)
  | _, _ => none
theorem RVs.rep {K : PySem.W.Frag} {cn : Cn} {r : Rho} {H : Hp} {ms : List MV} {vs : List V} (h : RVs K cn r H ms vs) : ∀ n : Nat, RVs K cn r H (List.replicate n ms).flatten (List.replicate n vs).flatten
  | 0 => .nil
  | n + 1 => by
    rw [List.replicate_succ, List.replicate_succ, List.flatten_cons, List.flatten_cons]
    exact h.app (RVs.rep h n)
theorem op_mulM : OpR X (binaryOp .Mult) (RM X.K cn mulO) := by
  intro pins s σ H x y v u Q I rx ry h
  obtain ⟨r, m, a, b, c, m', hr, ha, hb, e, p⟩ := h
  unfold mulO at e
  split at e
  · split at e
    · cases e
      rw [rv_int ha] at rx
      rw [rv_int hb] at ry
      exact op_mul pins s σ H _ _ v u Q I rx ry ⟨_, _, rfl, rfl, by assumption, p r H _ .refl hr (.int _)⟩
    · cases e
  · split at e
    · rename_i xs e1
      split at e
      · rename_i hz
        cases e
        have hy := rv_int hb
        subst hy
        obtain ⟨p1, vs1, rfl, l1, t1⟩ := lst_at hr ha e1
        exact thn (op_repL pins s σ H _ _ v u (LkQ Q) I rx ry ⟨_, _, _, rfl, rfl, l1, hz.1, hz.2.1, by rw [← t1.length]; exact hz.2.2, lkq_list hr (t1.rep _) p⟩) fun _ _ w => ep_lock w
      · cases e
    · cases e
  · cases e
def divO : OP2 := fun a b m => match a, b with
  | .int i, .int j => if 0 < j ∧ j < 1073741824 then some (.int (i / j), m) else none
  | _, _ => none
theorem op_divM : OpR X (binaryOp .FloorDiv) (RM X.K cn divO) := by
  intro pins s σ H x y v u Q I rx ry h
  obtain ⟨r, m, a, b, c, m', hr, ha, hb, e, p⟩ := h
  unfold divO at e
  split at e
  · split at e
    · cases e
      rw [rv_int ha] at rx
      rw [rv_int hb] at ry
      exact op_fdiv pins s σ H _ _ v u Q I rx ry ⟨_, _, rfl, rfl, by assumption, p r H _ .refl hr (.int _)⟩
    · cases e
  · cases e
def modO : OP2 := fun a b m => match a, b with
  | .int i, .int j => if 0 < j then some (.int (i % j), m) else none
  | _, _ => none
theorem op_modM : OpR X (binaryOp .Mod) (RM X.K cn modO) := by
  intro pins s σ H x y v u Q I rx ry h
  obtain ⟨r, m, a, b, c, m', hr, ha, hb, e, p⟩ := h
  unfold modO at e
  split at e
  · split at e
    · cases e
      rw [rv_int ha] at rx
      rw [rv_int hb] at ry
      exact op_mod pins s σ H _ _ v u Q I rx ry ⟨_, _, rfl, rfl, by assumption, p r H _ .refl hr (.int _)⟩
    · cases e
  · cases e
def powO : OP2 := fun a b m => match a, b with
  | .int i, .int j => if 0 ≤ j ∧ j ≤ 1000000 ∧ i.natAbs < 2 ^ 64 then some (.int (i ^ j.toNat), m) else none
  | _, _ => none
theorem op_powM : OpR X (binaryOp .Pow) (RM X.K cn powO) := by
  intro pins s σ H x y v u Q I rx ry h
  obtain ⟨r, m, a, b, c, m', hr, ha, hb, e, p⟩ := h
  unfold powO at e
  split at e
  · split at e
    · cases e
      rw [rv_int ha] at rx
      rw [rv_int hb] at ry
      exact op_pow pins s σ H _ _ v u Q I rx ry ⟨_, _, rfl, rfl, by assumption, p r H _ .refl hr (.int _)⟩
    · cases e
  · cases e
/-- -x -/
def eNeg (f : EM) : EM := fun e => do
  match ← f e with
  | .int i => pure (.int (-i))
  | _ => MM.fail
theorem e_neg (ha : JE X cn W a f) : JE X cn W (.UnaryOp .USub a pos) (eNeg f) := by
  refine pe_imp (pe_un un_neg ha) fun s H Q ⟨r, m, e, hs, hr, w⟩ => ?_
  refine ⟨r, m, e, hs, hr, w.bind.mono (fun x m1 w1 r1 H1 v1 x1 hr1 hv1 => ?_) fun _ _ p => p⟩
  cases hv1 with
  | int i => exact ⟨i, rfl, w1 r1 H1 _ x1 hr1 (.int _)⟩
  | _ => exact w1.elim

/-! ### order -/
def ordO (p : Int → Int → Bool) (q : List Nat → List Nat → Bool) : OP2 := fun a b m => match a, b with
  | .int i, .int j => some (.bl (p i j), m)
  | .str x, .str y => some (.bl (q x.cps.toList y.cps.toList), m)
  | _, _ => none
abbrev ltO : OP2 := ordO (fun i j => decide (i < j)) fun x y => decide (x < y)
abbrev gtO : OP2 := ordO (fun i j => decide (j < i)) fun x y => decide (y < x)
abbrev leO : OP2 := ordO (fun i j => decide (i ≤ j)) fun x y => !decide (y < x)
abbrev geO : OP2 := ordO (fun i j => decide (j ≤ i)) fun x y => !decide (x < y)
theorem op_ordM {op : CmpOp} {p : Int → Int → Bool} {q : List Nat → List Nat → Bool} (h1 : OpR X (compareOp op) (rI0 fun i j => .bl (p i j)))
    (h2 : OpR X (compareOp op) (fun x y H Q => ∃ i j, x = .str i ∧ y = .str j ∧ Q (.bl (q i.cps.toList j.cps.toList)) H)) : OpR X (compareOp op) (RM X.K cn (ordO p q)) := by
  intro pins s σ H x y v u Q I rx ry h
  obtain ⟨r, m, a, b, c, m', hr, ha, hb, e, z⟩ := h
  unfold ordO at e
  split at e
  · cases e
    rw [rv_int ha] at rx
    rw [rv_int hb] at ry
    exact h1 pins s σ H _ _ v u Q I rx ry ⟨_, _, rfl, rfl, z r H _ .refl hr (.bl _)⟩
  · cases e
    rw [rv_str ha] at rx
    rw [rv_str hb] at ry
    exact h2 pins s σ H _ _ v u Q I rx ry ⟨_, _, rfl, rfl, z r H _ .refl hr (.bl _)⟩
  · cases e
theorem op_ltM : OpR X (compareOp .Lt) (RM X.K cn ltO) := op_ordM op_lt op_lt_str
theorem op_gtM : OpR X (compareOp .Gt) (RM X.K cn gtO) := op_ordM op_gt op_gt_str
theorem op_leM : OpR X (compareOp .LtE) (RM X.K cn leO) := op_ordM op_le op_le_str
theorem op_geM : OpR X (compareOp .GtE) (RM X.K cn geO) := op_ordM op_ge op_ge_str
/-- .. give a bool and leave the heap -/
theorem ord_pure {p : Int → Int → Bool} {q : List Nat → List Nat → Bool} : ∀ x y m, ∀ c m', lift2 (ordO p q) x y m = .ok c m' → m' = m ∧ ∃ q, c = .bl q := fun x y m c m' e => by
  unfold lift2 ordO at e
  split at e
  · rename_i q' _ h
    split at h
    · cases h; cases e; exact ⟨rfl, _, rfl⟩
    · cases h; cases e; exact ⟨rfl, _, rfl⟩
    · cases h
  · cases e

/-! ### data: what a value is, through the heap -/
def datL (f : MV → Option PyData) : List MV → Option (List PyData)
  | [] => some []
  | x :: xs => match f x, datL f xs with
    | some d, some ds => some (d :: ds)
    | _, _ => none
def dat : Nat → MH → MV → Option PyData
  | 0, _, _ => none
  | n + 1, m, a => match a with
    | .non => some .none
    | .bl b => some (.bool b)
    | .int i => some (.int i)
    | .str x => some (.str x)
    | .tup xs => (datL (dat n m) xs).map .tuple
    | .con xs => (datL (dat n m) xs).map .list
    | .ref i => (match m[i]? with
      | some (.lst xs) => (datL (dat n m) xs).map .list
      | _ => none)
    | _ => none
theorem datL_dp {K : PySem.W.Frag} {cn : Cn} {r : Rho} {H : Hp} {f : MV → Option PyData} (hf : ∀ a v d, RV K cn r H a v → f a = some d → Dp K H v d) : ∀ {ms : List MV} {vs : List V} {ds : List PyData}, RVs K cn r H ms vs → datL f ms = some ds → DpAll K H vs ds
  | _, _, ds, .nil, e => by cases e; exact .nil
  | _, _, ds, .cons (m := m) (ms := ms) a t, e => by
    unfold datL at e
    split at e
    · rename_i d ds' e1 e2
      cases e
      exact .cons (hf _ _ _ a e1) (datL_dp hf t e2)
    · cases e
theorem dat_dp {K : PySem.W.Frag} {cn : Cn} {r : Rho} {m : MH} {H : Hp} (hr : HR K cn r m H) : ∀ (n : Nat) {a : MV} {v : V} {d : PyData}, RV K cn r H a v → dat n m a = some d → Dp K H v d
  | 0, _, _, _, _, e => by cases e
  | n + 1, a, v, d, h, e => by
    have ih := fun a v d => @dat_dp K cn r m H hr n a v d
    unfold dat at e
    cases h with
    | non => cases e; exact .non
    | bl b => cases e; exact .bl b
    | int i => cases e; exact .int i
    | str x => cases e; exact .str x
    | tup h1 t1 =>
      obtain ⟨ds, e1, rfl⟩ := Option.map_eq_some_iff.mp e
      exact .tup h1 (datL_dp ih t1 e1)
    | con h1 t1 =>
      obtain ⟨ds, e1, rfl⟩ := Option.map_eq_some_iff.mp e
      exact .lst (con_sq h1) (datL_dp ih t1 e1)
    | ref h1 =>
      obtain ⟨o, h2, h3⟩ := hr.get h1
      simp only [h2] at e
      cases h3 with
      | lst l1 t1 =>
        obtain ⟨ds, e1, rfl⟩ := Option.map_eq_some_iff.mp e
        exact .lst (SqL.of l1) (datL_dp ih t1 e1)
      | dct _ _ => cases e
      | ins _ _ => cases e
      | ded _ => cases e
    | obj _ _ => cases e
    | cdc _ _ => cases e
/-- .. well formed -/
def datS (m : MH) (a : MV) : Option PyData := match dat 40 m a with
  | some d => if SeqAt.shaped d = true then some d else none
  | none => none
theorem datS_dp {K : PySem.W.Frag} {cn : Cn} {r : Rho} {m : MH} {H : Hp} (hr : HR K cn r m H) {a : MV} {v : V} {d : PyData} (h : RV K cn r H a v) (e : datS m a = some d) : Dp K H v d ∧ SeqAt.shaped d = true := by
  unfold datS at e
  split at e
  · rename_i d' e1
    split at e
    · cases e; exact ⟨dat_dp hr 40 h e1, by assumption⟩
    · cases e
  · cases e
def eqO (neg : Bool) : OP2 := fun a b m => match datS m a, datS m b with
  | some d, some e => some (.bl (if neg then !PyData.eqv d e else PyData.eqv d e), m)
  | _, _ => none
theorem op_eqM (hu : X.A.units + 64 < cLine) : OpR X (compareOp .Eq) (RM X.K cn (eqO false)) := by
  intro pins s σ H x y v u Q I rx ry h
  obtain ⟨r, m, a, b, c, m', hr, ha, hb, e, p⟩ := h
  unfold eqO at e
  split at e
  · rename_i d d' e1 e2
    cases e
    obtain ⟨h1, s1⟩ := datS_dp hr ha e1
    obtain ⟨h2, s2⟩ := datS_dp hr hb e2
    exact op_eqD hu pins s σ H _ _ v u Q I rx ry ⟨_, _, h1, h2, s1, s2, p r H _ .refl hr (.bl _)⟩
  · cases e
theorem op_neM (hu : X.A.units + 64 < cLine) : OpR X (compareOp .NotEq) (RM X.K cn (eqO true)) := by
  intro pins s σ H x y v u Q I rx ry h
  obtain ⟨r, m, a, b, c, m', hr, ha, hb, e, p⟩ := h
  unfold eqO at e
  split at e
  · rename_i d d' e1 e2
    cases e
    obtain ⟨h1, s1⟩ := datS_dp hr ha e1
    obtain ⟨h2, s2⟩ := datS_dp hr hb e2
    exact op_neD hu pins s σ H _ _ v u Q I rx ry ⟨_, _, h1, h2, s1, s2, p r H _ .refl hr (.bl _)⟩
  · cases e
def isNonO (neg : Bool) : OP2 := fun a b m => match b with
  | .non => some (.bl (match a with | .non => !neg | _ => neg), m)
  | _ => none
theorem isNon_of {K : PySem.W.Frag} {cn : Cn} {r : Rho} {H : Hp} {a : MV} {v : V} (h : RV K cn r H a v) : decide (v = .non) = (match a with | .non => true | _ => false) := by cases h <;> rfl
theorem op_isM : OpR X (compareOp .Is) (RM X.K cn (isNonO false)) := by
  intro pins s σ H x y v u Q I rx ry h
  obtain ⟨r, m, a, b, c, m', hr, ha, hb, e, p⟩ := h
  unfold isNonO at e
  split at e
  · cases e
    rw [rv_non hb] at ry
    refine op_isN pins s σ H _ _ v u Q I rx ry ⟨rfl, ?_⟩
    rw [isNon_of ha]
    have q := p r H _ .refl hr (.bl _)
    cases a <;> exact q
  · cases e
theorem op_isNotM : OpR X (compareOp .IsNot) (RM X.K cn (isNonO true)) := by
  intro pins s σ H x y v u Q I rx ry h
  obtain ⟨r, m, a, b, c, m', hr, ha, hb, e, p⟩ := h
  unfold isNonO at e
  split at e
  · cases e
    rw [rv_non hb] at ry
    refine op_notN pins s σ H _ _ v u Q I rx ry ⟨rfl, ?_⟩
    rw [isNon_of ha]
    have q := p r H _ .refl hr (.bl _)
    cases a <;> exact q
  · cases e
/-- x in y: a sign in a text, an item in a tuple or list, a key of a dict -/
def inB : MV → MV → MH → Option Bool := fun a b m => match b with
  | .str z => (match a with
    | .str x => if x.cps.size = 1 then some (decide (x.cps.getD 0 0 ∈ z.cps.toList)) else some (!(Builtin.Str.occurrences z x 0 z.length 1).isEmpty)
    | _ => none)
  | .ref n => (match m[n]? with
    | some (.dct kvs) => (match a with
      | .str x => some (kvs.lookup x).isSome
      | _ => none)
    | _ => (match datS m a, datS m b with
      | some d, some (.list ds) => some (ds.any fun z => PyData.eqv z d)
      | _, _ => none))
  | _ => (match datS m a, datS m b with
    | some d, some (.list ds) => some (ds.any fun z => PyData.eqv z d)
    | some d, some (.tuple ds) => some (ds.any fun z => PyData.eqv z d)
    | _, _ => none)
def inO (neg : Bool) : OP2 := fun a b m => (inB a b m).map fun q => (.bl (if neg then !q else q), m)
theorem one_sign {x : Str} (h : x.cps.size = 1) : x = ⟨#[x.cps.getD 0 0]⟩ := by
  obtain ⟨c⟩ := x
  obtain ⟨l⟩ := c
  match l, h with
  | [a], _ => rfl
theorem valV_lookup {r : Rho} {K : PySem.W.Frag} {cn : Cn} {H : Hp} {x : Str} : ∀ {ms : List (Str × MV)} {vs : List (Str × V)}, RFs K cn r H ms vs → (valV (vs.map fun p => ((Sum.inr p.1 : Key), p.2)) (Sum.inr x)) = vs.lookup x
  | _, _, .nil => rfl
  | _, _, .cons (x := y) a t => by
    rename_i v ms vs
    show valV ((((Sum.inr y : Key), v)) :: vs.map fun p => ((Sum.inr p.1 : Key), p.2)) (Sum.inr x) = _
    rw [List.lookup_cons]
    by_cases h : y = x
    · subst h
      rw [valV_pos rfl]
      simp
    · have h2 : ¬ (Sum.inr y : Key) = Sum.inr x := fun z => h (Sum.inr.inj z)
      have h3 : (x == y) = false := by simp [Ne.symm h]
      rw [h3]
      unfold valV
      rw [List.find?_cons]
      simp only [h2, decide_false]
      exact valV_lookup t
theorem lookup_some {r : Rho} {K : PySem.W.Frag} {cn : Cn} {H : Hp} {x : Str} {ms : List (Str × MV)} {vs : List (Str × V)} (t : RFs K cn r H ms vs) : (vs.lookup x).isSome = (ms.lookup x).isSome := by
  cases e : ms.lookup x with
  | none =>
    rw [t.none_ e]
    rfl
  | some a =>
    obtain ⟨v, h1, _⟩ := t.lookup e
    rw [h1]
    rfl
theorem op_inAny {op : CmpOp} {neg : Bool} (hu : X.A.units + 65 < cLine)
    (h1 : OpR X (compareOp op) (fun x y H Q => ∃ (c : Nat) (z : Str), x = .str ⟨#[c]⟩ ∧ y = .str z ∧ Q (.bl (if neg then !decide (c ∈ z.cps.toList) else decide (c ∈ z.cps.toList))) H))
    (h2 : OpR X (compareOp op) (fun x y H Q => ∃ i j, x = .str i ∧ y = .str j ∧ Q (.bl (if neg then !(!(Builtin.Str.occurrences j i 0 j.length 1).isEmpty) else !(Builtin.Str.occurrences j i 0 j.length 1).isEmpty)) H))
    (h3 : ∀ (pins : List (Addr × Obj)) (s : Shared) (σ : L2.St) (H : Hp) (x y : V) (v u : Value) (Q : VK) (d : PyData) (ds : List PyData) (t : Bool), Inv X pins σ H s → RelV x v → RelV y u → Dp X.K H x d → Dp X.K H y (if t then .tuple ds else .list ds) → SeqAt.shaped d = true → SeqAt.shaped (if t then .tuple ds else .list ds) = true →
      Q (.bl (if neg then !(ds.any fun z => PyData.eqv z d) else ds.any fun z => PyData.eqv z d)) H → wpAny (model X.prog X.w) X.A (compareOp op v u) (EP X pins σ Q) X.xe s)
    (h4 : ∀ (pins : List (Addr × Obj)) (s : Shared) (σ : L2.St) (H : Hp) (a : Addr) (y : V) (u : Value) (Q : VK) (o : Option V), Inv X pins σ H s → RelV y u → DGet H a y o → Q (.bl (if neg then !o.isSome else o.isSome)) H → wpAny (model X.prog X.w) X.A (compareOp op u (.ref a)) (EP X pins σ Q) X.xe s) :
    OpR X (compareOp op) (RM X.K cn (inO neg)) := by
  intro pins s σ H x y v u Q I rx ry h
  obtain ⟨r, m, a, b, c, m', hr, ha, hb, e, p⟩ := h
  unfold inO at e
  obtain ⟨q, e1, e2⟩ := Option.map_eq_some_iff.mp e
  cases e2
  have fin := p r H _ .refl hr (.bl _)
  unfold inB at e1
  have seq : ∀ {t : Bool} {d : PyData} {ds : List PyData}, datS m a = some d → datS m b = some (if t then .tuple ds else .list ds) → q = (ds.any fun z => PyData.eqv z d) → wpAny (model X.prog X.w) X.A (compareOp op v u) (EP X pins σ Q) X.xe s := fun {t d ds} k1 k2 k3 => by
    obtain ⟨g1, s1⟩ := datS_dp hr ha k1
    obtain ⟨g2, s2⟩ := datS_dp hr hb k2
    exact h3 pins s σ H x y v u Q d ds t I rx ry g1 g2 s1 s2 (by rw [← k3]; exact fin)
  split at e1
  · rename_i z
    split at e1
    · rename_i x'
      have hx := rv_str ha
      rw [rv_str hb] at ry
      split at e1
      · rename_i hz
        cases e1
        rw [one_sign hz] at hx
        rw [hx] at rx
        exact h1 pins s σ H _ _ v u Q I rx ry ⟨_, _, rfl, rfl, fin⟩
      · cases e1
        rw [hx] at rx
        exact h2 pins s σ H _ _ v u Q I rx ry ⟨_, _, rfl, rfl, fin⟩
    · cases e1
  · rename_i n
    split at e1
    · rename_i kvs ek
      split at e1
      · rename_i x'
        cases e1
        cases hb with
        | ref hk =>
          have o1 := hr.at_ _ _ _ ek hk
          cases o1 with
          | dct hd t =>
            cases (show u = Value.ref _ from ry)
            refine h4 pins s σ H _ x v Q _ I rx (.inl ⟨_, Sum.inr x', .inl hd, ?_, rfl⟩) ?_
            · exact rv_str ha
            · rw [valV_lookup t, lookup_some t]
              exact fin
      · cases e1
    · split at e1
      · rename_i d ds k1 k2
        cases e1
        exact seq (t := false) k1 k2 rfl
      · cases e1
  · split at e1
    · rename_i d ds k1 k2
      cases e1
      exact seq (t := false) k1 k2 rfl
    · rename_i d ds k1 k2
      cases e1
      exact seq (t := true) k1 k2 rfl
    · cases e1
theorem op_inM (hu : X.A.units + 65 < cLine) : OpR X (compareOp .In) (RM X.K cn (inO false)) := by
  refine op_inAny hu op_in_sign op_in_str (fun pins s σ H x y v u Q d ds t I rx ry g1 g2 s1 s2 fin => ?_) fun pins s σ H a y u Q o I ry g fin => ?_
  · obtain ⟨as, r1⟩ := Dp.reads I d x v g1 rx
    obtain ⟨bs, r2⟩ := Dp.reads I _ y u g2 ry
    cases t with
    | false => exact SeqAt.in_list_reads r2 r1 (SeqAt.canLay_of_shaped s2) (SeqAt.canLay_of_shaped s1) (room_in_shaped s1 hu) ⟨.bl _, H, I, rfl, fin⟩
    | true => exact SeqAt.in_tuple_reads r2 r1 (SeqAt.canLay_of_shaped s2) (SeqAt.canLay_of_shaped s1) (room_in_shaped s1 hu) ⟨.bl _, H, I, rfl, fin⟩
  · exact d_in (by omega) I g ry fun s3 I3 => ⟨.bl o.isSome, H, I3, rfl, fin⟩
theorem op_notInM (hu : X.A.units + 65 < cLine) : OpR X (compareOp .NotIn) (RM X.K cn (inO true)) := by
  refine op_inAny hu op_notIn_sign op_notIn_str (fun pins s σ H x y v u Q d ds t I rx ry g1 g2 s1 s2 fin => ?_) fun pins s σ H a y u Q o I ry g fin => ?_
  · obtain ⟨as, r1⟩ := Dp.reads I d x v g1 rx
    obtain ⟨bs, r2⟩ := Dp.reads I _ y u g2 ry
    cases t with
    | false => exact SeqAt.notIn_list_reads r2 r1 (SeqAt.canLay_of_shaped s2) (SeqAt.canLay_of_shaped s1) (room_in_shaped s1 hu) ⟨.bl _, H, I, rfl, fin⟩
    | true => exact SeqAt.notIn_tuple_reads r2 r1 (SeqAt.canLay_of_shaped s2) (SeqAt.canLay_of_shaped s1) (room_in_shaped s1 hu) ⟨.bl _, H, I, rfl, fin⟩
  · exact d_notIn (by omega) I g ry fun s3 I3 => ⟨.bl (!o.isSome), H, I3, rfl, fin⟩
end
end Mi
end

section
set_option Elab.async false
set_option linter.all false
set_option maxRecDepth 100000
set_option maxHeartbeats 2000000
namespace Mi
open PySem PySem.Spec PyProof.Rows L2

section
variable {X : Cx} {cn : Cn} {W : WX} {pos : Pos} {a b : Expr} {f g : EM}
/-! ### subscripts -/
def ixO : OP2 := fun a b m => match a, b with
  | .tup xs, .int i => (atI xs i).map fun x => (x, m)
  | .con xs, .int i => (atI xs i).map fun x => (x, m)
  | .str z, .int i => if z.length ≤ sizeLine then (atI z.cps.toList i).map fun c => (.str ⟨#[c]⟩, m) else none
  | .ref n, .int i => (match m[n]? with
    | some (.lst xs) => (atI xs i).map fun x => (x, m)
    | _ => none)
  | .ref n, .str x => (match m[n]? with
    | some (.dct kvs) => (kvs.lookup x).map fun x => (x, m)
    | _ => none)
  | _, _ => none
theorem atI_rv {K : PySem.W.Frag} {cn : Cn} {r : Rho} {H : Hp} {ms : List MV} {vs : List V} (t : RVs K cn r H ms vs) {i : Int} {a : MV} (e : atI ms i = some a) : ∃ v, atI vs i = some v ∧ RV K cn r H a v := by
  unfold atI at e ⊢
  rw [t.length] at e
  cases q : ixN vs.length i with
  | none => rw [q] at e; cases e
  | some j =>
    rw [q] at e
    exact t.get e
theorem ix_any (hu : X.A.units + 1 < cLine) : IxR X (RM X.K cn ixO) := by
  intro value slice pins s σ H x y v u Q I rx ry h hs
  obtain ⟨r, m, a, b, c, m', hr, ha, hb, e, p⟩ := h
  unfold ixO at e
  split at e
  · obtain ⟨a', e1, e2⟩ := Option.map_eq_some_iff.mp e
    cases e2
    rw [rv_int hb] at ry
    cases ha with
    | tup h1 t1 =>
      obtain ⟨v', e3, h3⟩ := atI_rv t1 e1
      exact ix_tup value slice pins s σ H _ _ v u Q I rx ry ⟨_, _, _, _, rfl, rfl, h1, e3, p r H _ .refl hr h3⟩ hs
  · obtain ⟨a', e1, e2⟩ := Option.map_eq_some_iff.mp e
    cases e2
    rw [rv_int hb] at ry
    cases ha with
    | con h1 t1 =>
      obtain ⟨v', e3, h3⟩ := atI_rv t1 e1
      exact ix_list value slice pins s σ H _ _ v u Q I rx ry ⟨_, _, _, _, rfl, rfl, con_sq h1, e3, p r H _ .refl hr h3⟩ hs
  · split at e
    · obtain ⟨a', e1, e2⟩ := Option.map_eq_some_iff.mp e
      cases e2
      rw [rv_int hb] at ry
      rw [rv_str ha] at rx
      exact ix_str value slice pins s σ H _ _ v u Q I rx ry ⟨_, _, _, rfl, rfl, by assumption, e1, p r H _ .refl hr (.str _)⟩ hs
    · cases e
  · split at e
    · rename_i xs ek
      obtain ⟨a', e1, e2⟩ := Option.map_eq_some_iff.mp e
      cases e2
      rw [rv_int hb] at ry
      cases ha with
      | ref hk =>
        cases hr.at_ _ _ _ ek hk with
        | lst l1 t1 =>
          obtain ⟨v', e3, h3⟩ := atI_rv t1 e1
          exact ix_list value slice pins s σ H _ _ v u Q I rx ry ⟨_, _, _, _, rfl, rfl, SqL.of l1, e3, p r H _ .refl hr h3⟩ hs
    · cases e
  · split at e
    · rename_i kvs ek
      obtain ⟨a', e1, e2⟩ := Option.map_eq_some_iff.mp e
      cases e2
      have hy := rv_str hb
      cases ha with
      | ref hk =>
        cases hr.at_ _ _ _ ek hk with
        | dct l1 t1 =>
          obtain ⟨v', e3, h3⟩ := t1.lookup e1
          cases (show v = Value.ref _ from rx)
          have gd : DGet H _ y (some v') := .inl ⟨_, Sum.inr _, .inl l1, hy, by rw [valV_lookup t1, e3]⟩
          exact tail_any (dict_typeIs I gd) PySem.F.slot_dict_getitem.lookup (d_getItem hu I gd ry fun w' s3 I3 rw' => ⟨v', H, I3, rw', p r H _ .refl hr h3⟩) hs
    · cases e
  · cases e
theorem e_ix (hu : X.A.units + 1 < cLine) (ha : JE X cn W a f) (hb : JE X cn W b g) (hs : PlainIx b := by exact fun _ _ => rfl) : JE X cn W (.Subscript a b pos) (eBin (lift2 ixO) f g) :=
  pe_imp (pe_ix (ix_any hu) ha hb hs) fun _ _ _ w => le_bin opM_of w
/-- the parts of a slice -/
def LO (K : PySem.W.Frag) (cn : Cn) (W : WX) (f : ME → MM (Option Int)) : TO := fun s H Q => ∃ (r : Rho) (m : MH) (e : ME), SR K cn r H e s ∧ HR K cn r m H ∧ Wp (f e m) (fun a m' => ∀ r' H', Ext r H r' H' → HR K cn r' m' H' → Q a H') (PostX K cn W s r H)
abbrev JO (X : Cx) (cn : Cn) (W : WX) (e : Option Expr) (f : ME → MM (Option Int)) : Prop := PO X e (LO X.K cn W f)
def oNone : ME → MM (Option Int) := fun _ => pure none
def oSome (f : EM) : ME → MM (Option Int) := fun e => do
  match ← f e with
  | .int i => pure (some i)
  | _ => MM.fail
theorem po_imp {e : Option Expr} {t t' : TO} (h : PO X e t) (i : ∀ s H Q, t' s H Q → t s H Q) : PO X e t' := ⟨fun pins s σ H Q I q => h.run pins s σ H Q I (i _ _ _ q)⟩
theorem o_none : JO X cn W none oNone := po_imp po_none fun s H Q ⟨r, m, e, hs, hr, w⟩ => w r H .refl hr
theorem o_some (h : JE X cn W a f) : JO X cn W (some a) (oSome f) := by
  refine po_imp (po_some h) fun s H Q ⟨r, m, e, hs, hr, w⟩ => ?_
  refine ⟨r, m, e, hs, hr, w.bind.mono (fun x m1 w1 r1 H1 v1 x1 hr1 hv1 => ?_) fun _ _ p => p⟩
  cases hv1 with
  | int i => exact ⟨i, rfl, w1 r1 H1 x1 hr1⟩
  | _ => exact w1.elim
def cutM (xs : List MV) (lo hi : Option Int) : List MV := (xs.drop (HT.sIx xs.length 0 lo)).take (HT.sIx xs.length xs.length hi - HT.sIx xs.length 0 lo)
theorem cut_rv {K : PySem.W.Frag} {cn : Cn} {r : Rho} {H : Hp} {ms : List MV} {vs : List V} (t : RVs K cn r H ms vs) (lo hi : Option Int) : RVs K cn r H (cutM ms lo hi) (cutV vs lo hi) := by
  unfold cutM cutV
  rw [t.length]
  exact (t.drop _).take _
def slM (a : MV) (lo hi : Option Int) : MM MV := fun m => match a with
  | .tup xs => .ok (.tup (cutM xs lo hi)) m
  | .con xs => .ok (.con (cutM xs lo hi)) m
  | .str z => if z.length ≤ sizeLine then .ok (.str (cutS z lo hi)) m else .bad
  | .ref n => (match m[n]? with
    | some (.lst xs) => .ok (.con (cutM xs lo hi)) m
    | _ => .bad)
  | _ => .bad
def eSl (f : EM) (lo hi : ME → MM (Option Int)) : EM := fun e => do
  let x ← f e
  let l ← lo e
  let h ← hi e
  slM x l h
def RSl (K : PySem.W.Frag) (cn : Cn) : V → Option Int → Option Int → Hp → VK → Prop := fun x lo hi H Q => ∃ r m a, HR K cn r m H ∧ RV K cn r H a x ∧ Wp (slM a lo hi m) (PostE K cn r H Q) fun _ _ => False
theorem sl_any : SlR X (RSl X.K cn) := by
  intro pins s σ H x v vl vu lo hi sl Q I rx hs pl pu h
  obtain ⟨r, m, a, hr, ha, w⟩ := h
  unfold slM at w
  have lst : ∀ {p : Addr} {ms : List MV} {vs : List V}, RelV (.ref p) v → SqL X.K H p vs → RVs X.K cn r H ms vs → PostE X.K cn r H Q (.con (cutM ms lo hi)) m → ∃ T id, typeLookup (.type T) "__getitem__" = pure (some (.builtin id)) ∧ s.TypeIs v T ∧ wpAny (model X.prog X.w) X.A (getItem v (.ref sl)) (EP X pins σ Q) X.xe s := fun rx' h1 t1 w' =>
    let ⟨T, id, k1, k2, k3⟩ := sl_list pins s σ H _ v vl vu lo hi sl (LkQ Q) I rx' hs pl pu ⟨_, _, rfl, h1, lkq_list hr (cut_rv t1 lo hi) w'⟩
    ⟨T, id, k1, k2, thn k3 fun _ _ w => ep_lock w⟩
  cases ha with
  | tup h1 t1 =>
    refine sl_tupA pins s σ H _ v vl vu lo hi sl Q I rx hs pl pu ⟨_, _, rfl, h1, fun z => ?_, fun z q hq => ?_⟩
    · refine w r H _ .refl hr (.tup h1 ?_)
      have z2 := cut_rv t1 lo hi
      rename_i vs ms
      have e : cutV vs lo hi = vs := by
        unfold cutV
        rw [z.1, z.2]
        simp
      rw [e] at z2
      exact z2
    · exact w r _ _ (ext_tup hq) (hr.tup hq) (.tup (SqT.of upd_same) ((cut_rv t1 lo hi).ext (ext_tup hq)))
  | con h1 t1 => exact lst rx (con_sq h1) t1 w
  | str z =>
    simp only at w
    split at w
    · exact sl_str pins s σ H _ v vl vu lo hi sl Q I rx hs pl pu ⟨_, rfl, by assumption, w r H _ .refl hr (.str _)⟩
    · exact w.elim
  | ref hk =>
    obtain ⟨o, h2, h3⟩ := hr.get hk
    simp only [h2] at w
    cases h3 with
    | lst l1 t1 => exact lst rx (SqL.of l1) t1 w
    | dct _ _ => exact w.elim
    | ins _ _ => exact w.elim
    | ded _ => exact w.elim
  | _ => exact w.elim
theorem slM_exc {a : MV} {lo hi : Option Int} {m : MH} {E E' : MX → MH → Prop} {Q : MV → MH → Prop} (w : Wp (slM a lo hi m) Q E) : Wp (slM a lo hi m) Q E' := by
  cases q : slM a lo hi m with
  | ok _ _ => rw [q] at w; exact w
  | bad => rw [q] at w; exact w
  | exc e m' =>
    exfalso
    unfold slM at q
    split at q
    · cases q
    · cases q
    · split at q <;> cases q
    · split at q <;> cases q
    · cases q
theorem e_sl {p2 : Pos} {lo hi : Option Expr} {fl fh : ME → MM (Option Int)} (ha : JE X cn W a f) (hl : JO X cn W lo fl) (hh : JO X cn W hi fh) : JE X cn W (.Subscript a (.Slice lo hi none p2) pos) (eSl f fl fh) := by
  refine pe_imp (pe_slice (sl_any (cn := cn)) ha hl hh) fun s H Q ⟨r, m, e, hs, hr, w⟩ => ?_
  refine ⟨r, m, e, hs, hr, w.bind.mono (fun x m1 w1 r1 H1 v1 x1 hr1 hv1 => ?_) fun _ _ p => p⟩
  refine ⟨r1, m1, e, hs.ext x1, hr1, w1.bind.mono (fun l m2 w2 r2 H2 x2 hr2 => ?_) fun _ _ p => p.ext x1⟩
  refine ⟨r2, m2, e, hs.ext (x1.trans x2), hr2, w2.bind.mono (fun h m3 w3 r3 H3 x3 hr3 => ?_) fun _ _ p => p.ext (x1.trans x2)⟩
  exact ⟨r3, m3, x, hr3, hv1.ext (x2.trans x3), slM_exc (w3.mono (fun _ _ p => p.ext (x1.trans (x2.trans x3))) fun _ _ p => p)⟩

/-! ### attributes -/
def fldM (cs : List Str) (fd : Str) (a : MV) : MM MV := fun m => match a with
  | .ref n => (match m[n]? with
    | some (.ins c fs) => if c ∈ cs then (match fs.lookup fd with
      | some v => .ok v m
      | none => .bad) else .bad
    | _ => .bad)
  | .obj c fs => if c ∈ cs then (match fs.lookup fd with
      | some v => .ok v m
      | none => .bad) else .bad
  | _ => .bad
theorem getattr_rd {X : Cx} {pins : List (Addr × Obj)} {σ : L2.St} {H : Hp} {s : Shared} {a C dx : Addr} {fs : List (Str × V)} {f : Str} {v : V} {A : Around} {E : Value → Shared → Prop} {b : Bool} {Q : Value → Shared → Prop} (I : Inv X pins σ H s) (e : Rd H a (.ins C dx fs)) (c : Cls X.K C) (n : NoAttr X.K C f) (l : fs.lookup f = some v)
    (h : ∀ u s', Inv X pins σ H s' → RelV v u → Q u s') : wpAny (model X.prog X.w) A (getAttr (.ref a) f b) Q E s := by
  obtain ⟨d, z, ne, ob, mA, n', r, q⟩ := e.ok I.hok
  obtain ⟨u, hu, ru⟩ := RelO.some_of (v := v) (o := mA f) (by rw [← l]; exact r f)
  exact get_map I.kIn ⟨ob, n', ne⟩ (c.get f) c.hd n hu (handed_of ru) (h u _ (I.tok _) ru)
def tFldR (K : PySem.W.Frag) (ta : TE) (f : Str) : TE := fun σ H Q => ta σ H fun x H1 => ∃ a C dx fs v, x = .ref a ∧ Rd H1 a (.ins C dx fs) ∧ Cls K C ∧ NoAttr K C f ∧ fs.lookup f = some v ∧ Q v H1
theorem pe_fldR {X : Cx} {e : Expr} {f : Str} {pos : Pos} {ta : TE} (he : PE X e ta) (hb : attributeBase e f X.env (eval e X.env) = eval e X.env) : PE X (.Attribute e f pos) (tFldR X.K ta f) := by
  refine ⟨fun pins s σ H Q I h => ?_⟩
  refine attr_of hb (thn (he.run pins s σ H _ I h) fun u s1 ⟨x, H1, I1, rx, a, C, dx, fs, v, ex, ea, c, n, l, q⟩ => ?_)
  subst ex
  obtain rfl : u = Value.ref a := rx
  exact getattr_rd I1 ea c n l fun u' s2 I2 ru => ⟨v, H1, I2, ru, q⟩
def eFld (cs : List Str) (fd : Str) (f : EM) : EM := fun e => do fldM cs fd (← f e)
theorem e_fld {cs : List Str} {fd : Str} (ha : JE X cn W a f) (hc : ∀ c ∈ cs, Cls X.K (cn c) ∧ NoAttr X.K (cn c) fd) (hb : attributeBase a fd X.env (eval a X.env) = eval a X.env := by rfl) : JE X cn W (.Attribute a fd pos) (eFld cs fd f) := by
  refine pe_imp (pe_fldR ha hb) fun s H Q ⟨r, m, e, hs, hr, w⟩ => ?_
  refine ⟨r, m, e, hs, hr, w.bind.mono (fun x m1 w1 r1 H1 v1 x1 hr1 hv1 => ?_) fun _ _ p => p⟩
  unfold fldM at w1
  cases hv1 with
  | ref hk =>
    obtain ⟨o, h2, h3⟩ := hr1.get hk
    simp only [h2] at w1
    cases h3 with
    | ins l1 t1 =>
      simp only at w1
      split at w1
      · rename_i hcs
        cases q : List.lookup fd _ with
        | none => rw [q] at w1; exact w1.elim
        | some y =>
          rw [q] at w1
          obtain ⟨v', e3, h4⟩ := t1.lookup q
          exact ⟨_, _, _, _, _, rfl, .inl l1, (hc _ hcs).1, (hc _ hcs).2, e3, w1 r1 H1 _ x1 hr1 h4⟩
      · exact w1.elim
    | lst _ _ => exact w1.elim
    | dct _ _ => exact w1.elim
    | ded _ => exact w1.elim
  | obj l1 t1 =>
    simp only at w1
    split at w1
    · rename_i hcs
      cases q : List.lookup fd _ with
      | none => rw [q] at w1; exact w1.elim
      | some y =>
        rw [q] at w1
        obtain ⟨v', e3, h4⟩ := t1.lookup q
        exact ⟨_, _, _, _, _, rfl, .inr ⟨_, l1⟩, (hc _ hcs).1, (hc _ hcs).2, e3, w1 r1 H1 _ x1 hr1 h4⟩
    · exact w1.elim
  | _ => exact w1.elim

/-! ### calls of built-ins, of methods of built-in types, by values -/
abbrev OPn := List MV → MH → Option (MV × MH)
def liftN (h : OPn) (a : List MV) : MM MV := fun m => match h a m with
  | some (c, m') => .ok c m'
  | none => .bad
def RMn (K : PySem.W.Frag) (cn : Cn) (h : OPn) : List V → Hp → VK → Prop := fun xs H Q => ∃ r m as c m', HR K cn r m H ∧ RVs K cn r H as xs ∧ h as m = some (c, m') ∧ PostE K cn r H Q c m'
def eApp (h : OPn) (af : ME → MM (List MV)) : EM := fun e => do liftN h (← af e)
variable {es : List Expr} {af : ME → MM (List MV)} {x : Str} {p : Pos}
theorem le_app {K : PySem.W.Frag} {cn : Cn} {h : OPn} {s : L2.St} {H : Hp} {Q : VK} (w : LE K cn W (eApp h af) s H Q) : tCB (RMn K cn h) (LA K cn W af) s H Q := by
  obtain ⟨r, m, e, hs, hr, w⟩ := w
  refine ⟨r, m, e, hs, hr, w.bind.mono (fun xs m1 w1 r1 H1 vs x1 hr1 hv1 => ?_) fun _ _ p => p⟩
  unfold liftN at w1
  cases q : h xs m1 with
  | none => rw [q] at w1; exact w1.elim
  | some c =>
    rw [q] at w1
    exact ⟨r1, m1, xs, c.1, c.2, hr1, hv1, q, fun r' H' v y => w1 r' H' v (x1.trans y)⟩
theorem e_callB {id : String} {h : OPn} (hc : CallR X (.builtin id) (RMn X.K cn h)) (hm : X.mg x = none) (hv : bootBuiltins x = some (.builtin id)) (ha : JA X cn W (a :: es) af) (hg : Gl X x := by rfl)
    (hn : x ≠ "__name__" := by decide) (hdb : (x == ("__debug__" : Str)) = false := by decide) (he : starEach (a :: es) X.env = (false, eval a X.env) :: starEach es X.env := by rfl) (hpl : (backTo pos (starEach es X.env)).any (·.1) = false := by rfl) :
    JE X cn W (.Call (.Name x p) (a :: es) [] pos) (eApp h af) := pe_imp (pe_callB hc hg hm hv ha (hn := hn) (hdb := hdb) (he := he) (hpl := hpl)) fun _ _ _ w => le_app w
theorem e_callT {T : String} {h : OPn} (hc : CallR X (.type T) (RMn X.K cn h)) (hm : X.mg x = none) (hv : bootBuiltins x = some (.type T)) (ha : JA X cn W (a :: es) af) (hg : Gl X x := by rfl)
    (hn : x ≠ "__name__" := by decide) (hdb : (x == ("__debug__" : Str)) = false := by decide) (he : starEach (a :: es) X.env = (false, eval a X.env) :: starEach es X.env := by rfl) (hpl : (backTo pos (starEach es X.env)).any (·.1) = false := by rfl) :
    JE X cn W (.Call (.Name x p) (a :: es) [] pos) (eApp h af) := pe_imp (pe_callTy hc hg hm hv ha (hn := hn) (hdb := hdb) (he := he) (hpl := hpl)) fun _ _ _ w => le_app w
/-- the receiver first -/
def RMm (K : PySem.W.Frag) (cn : Cn) (h : OPn) : V → List V → Hp → VK → Prop := fun x xs H Q => ∃ r m a as c m', HR K cn r m H ∧ RV K cn r H a x ∧ RVs K cn r H as xs ∧ h (a :: as) m = some (c, m') ∧ PostE K cn r H Q c m'
/-- is it of this built-in type -/
def ofT (T : String) (a : MV) (m : MH) : Bool := match a with
  | .str _ => T == "str"
  | .int _ => T == "int"
  | .con _ => T == "list"
  | .ref n => (match m[n]? with
    | some (.lst _) => T == "list"
    | some (.dct _) => T == "dict"
    | _ => false)
  | _ => false
theorem tyV_of {K : PySem.W.Frag} {cn : Cn} {r : Rho} {m : MH} {H : Hp} (hr : HR K cn r m H) {T : String} {a : MV} {v : V} (h : RV K cn r H a v) (e : ofT T a m = true) : tyV K T v H := by
  unfold ofT at e
  cases h with
  | str y => exact eq_of_beq e
  | int y => exact eq_of_beq e
  | con h1 t1 =>
    exact .inl ⟨eq_of_beq e, _, con_sq h1⟩
  | ref hk =>
    obtain ⟨o, h2, h3⟩ := hr.get hk
    simp only [h2] at e
    cases h3 with
    | lst l1 t1 => exact .inl ⟨eq_of_beq e, _, SqL.of l1⟩
    | dct l1 t1 => exact .inr (.inr (.inl ⟨eq_of_beq e, .inl ⟨_, l1⟩⟩))
    | ins _ _ => cases e
    | ded _ => cases e
  | _ => cases e
def eMt (T : String) (h : OPn) (f : EM) (af : ME → MM (List MV)) : EM := fun e => do
  let o ← f e
  if ← (fun m => .ok (ofT T o m) m) then do
    let as ← af e
    liftN h (o :: as)
  else MM.fail
variable {o : Expr} {name : Str} {apos cpos : Pos} {T id : String}
theorem le_mt {K : PySem.W.Frag} {cn : Cn} {h : OPn} {s : L2.St} {H : Hp} {Q : VK} (w : LE K cn W (eMt T h f af) s H Q) : tBM K T (RMm K cn h) (LE K cn W f) (LA K cn W af) s H Q := by
  obtain ⟨r, m, e, hs, hr, w⟩ := w
  refine ⟨r, m, e, hs, hr, w.bind.mono (fun y m1 w1 r1 H1 v1 x1 hr1 hv1 => ?_) fun _ _ p => p⟩
  have w2 : Wp ((if ofT T y m1 then do let as ← af e; liftN h (y :: as) else MM.fail : MM MV) m1) (PostE K cn r H Q) (PostX K cn W s r H) := w1
  cases q : ofT T y m1 with
  | false => rw [q] at w2; exact w2.elim
  | true =>
    rw [q, if_pos rfl] at w2
    refine ⟨tyV_of hr1 hv1 q, r1, m1, e, hs.ext x1, hr1, w2.bind.mono (fun xs m2 w3 r2 H2 vs x2 hr2 hv2 => ?_) fun _ _ p => p.ext x1⟩
    unfold liftN at w3
    cases q2 : h (y :: xs) m2 with
    | none => rw [q2] at w3; exact w3.elim
    | some c =>
      rw [q2] at w3
      exact ⟨r2, m2, y, xs, c.1, c.2, hr2, hv1.ext x2, hv2, q2, fun r' H' v z => w3 r' H' v ((x1.trans x2).trans z)⟩
theorem e_mt {h : OPn} (pa : PlainAttrs T) (slot : Slot T name id) (hty : typeOf (.builtin id) = pure (.type "method_descriptor")) (hm : MtR X id (RMm X.K cn h)) (ho : JE X cn W o f) (ha : JA X cn W (a :: es) af)
    (hbase : attributeBase o name X.env (eval o X.env) = eval o X.env := by rfl)
    (hfew : ((backTo cpos (starEach (a :: es) X.env)).all (fun x => !x.1) && (backToKw cpos (keywordEach [] X.env)).all (fun x => x.1.isSome)
      && decide ((a :: es).length + ([] : List Keyword).length + (if ([] : List Keyword).isEmpty then 0 else 1) < 30)) = true := by rfl)
    (hline : (apos.endLine == cpos.line) = true := by rfl) (hs : starEach (a :: es) X.env = (false, eval a X.env) :: starEach es X.env := by rfl) (hplain : (backTo cpos (starEach es X.env)).any (·.1) = false := by rfl) :
    JE X cn W (.Call (.Attribute o name apos) (a :: es) [] cpos) (eMt T h f af) := pe_imp (pe_bm pa slot hty hm ho ha hbase hfew hline hs hplain) fun _ _ _ w => le_mt w
theorem e_mt0 {h : OPn} (pa : PlainAttrs T) (slot : Slot T name id) (hty : typeOf (.builtin id) = pure (.type "method_descriptor")) (hm : MtR X id (RMm X.K cn h)) (ho : JE X cn W o f)
    (hbase : attributeBase o name X.env (eval o X.env) = eval o X.env := by rfl) (hline : (apos.endLine == cpos.line) = true := by rfl) :
    JE X cn W (.Call (.Attribute o name apos) [] [] cpos) (eMt T h f aNil) := by
  refine pe_imp (pe_bm0 pa slot hty hm ho hbase hline) fun s H Q w => ?_
  obtain ⟨r, m, e, hs, hr, w⟩ := le_mt w
  refine ⟨r, m, e, hs, hr, w.mono (fun y m1 w1 r1 H1 v1 x1 hr1 hv1 => ?_) fun _ _ p => p⟩
  obtain ⟨t1, r2, m2, e2, hs2, hr2, w2⟩ := w1 r1 H1 v1 x1 hr1 hv1
  exact ⟨t1, w2 r2 H1 [] .refl hr2 .nil⟩

/-! ### some of these -/
def lenO : OPn := fun as m => match as with
  | [a] => (match a with
    | .str z => if z.length ≤ sizeLine then some (.int z.length, m) else none
    | .tup xs => some (.int xs.length, m)
    | .con xs => some (.int xs.length, m)
    | .ref n => (match m[n]? with
      | some (.lst xs) => some (.int xs.length, m)
      | _ => none)
    | _ => none)
  | _ => none
theorem call_lenM : CallR X (.builtin "len") (RMn X.K cn lenO) := by
  intro pins s σ H xs us Q I rs h
  obtain ⟨r, m, as, c, m', hr, ha, e, q⟩ := h
  unfold lenO at e
  split at e
  · cases ha with
    | cons h1 tn =>
      cases tn
      have fin : ∀ {v : V} {n : Nat}, Vals [v] us → LenV X.K v H n → Q (.int n) H → wpAny (model X.prog X.w) X.A (call (.builtin "len") us) (EP X pins σ Q) X.xe s := fun r' l q' => call_len pins s σ H _ us Q I r' ⟨_, _, rfl, l, q'⟩
      split at e
      · split at e
        · cases e
          rw [rv_str h1] at rs
          exact fin rs ⟨by assumption, rfl⟩ (q r H _ .refl hr (.int _))
        · cases e
      · cases e
        cases h1 with
        | tup k1 t1 => exact fin rs (.inr ⟨_, k1, rfl⟩) (by rw [← t1.length]; exact q r H _ .refl hr (.int _))
      · cases e
        cases h1 with
        | con k1 t1 =>
          exact fin rs (.inl ⟨_, con_sq k1, rfl⟩) (by rw [← t1.length]; exact q r H _ .refl hr (.int _))
      · split at e
        · rename_i xs ek
          cases e
          cases h1 with
          | ref hk =>
            cases hr.at_ _ _ _ ek hk with
            | lst l1 t1 => exact fin rs (.inl ⟨_, SqL.of l1, rfl⟩) (by rw [← t1.length]; exact q r H _ .refl hr (.int _))
        · cases e
      · cases e
  · cases e
def appendO : OPn := fun as m => match as with
  | [.ref n, y] => (match m[n]? with
    | some (.lst xs) => if xs.length < sizeLine then some (.non, m.set n (.lst (xs ++ [y]))) else none
    | _ => none)
  | _ => none
theorem mt_appendM : MtR X "list.append" (RMm X.K cn appendO) := by
  intro pins s σ H x xs v us Q I rx rs h
  obtain ⟨r, m, a, as, c, m', hr, ha, has, e, q⟩ := h
  unfold appendO at e
  split at e
  · rename_i n y he
    split at e
    · rename_i zs ek
      split at e
      · rename_i hz
        cases e
        cases he
        cases has with
        | cons hy tn =>
          cases tn
          cases ha with
          | ref hk =>
            cases hr.at_ _ _ _ ek hk with
            | lst l1 t1 =>
              obtain ⟨hr2, x2⟩ := hr.setL hk l1 (t1.app (RVs.one hy))
              exact mt_append pins s σ H _ _ v us Q I rx rs ⟨_, _, _, rfl, rfl, l1, by rw [← t1.length]; exact hz, q r _ _ x2 hr2 .non⟩
      · cases e
    · cases e
  · cases e
def extendO : OPn := fun as m => match as with
  | [.ref n, b] => (match m[n]?, lstM m b with
    | some (.lst xs), some ys => if xs.length + ys.length ≤ sizeLine then some (.non, m.set n (.lst (xs ++ ys))) else none
    | _, _ => none)
  | _ => none
theorem mt_extendR : MtR X "list.extend" (fun x vs H Q => ∃ l b xs zs, x = .ref l ∧ vs = [.ref b] ∧ H l = some (.lst xs) ∧ Rd H b (.lst zs) ∧ xs.length + zs.length ≤ sizeLine ∧ Q .non (upd H l (.lst (xs ++ zs)))) := by
  intro pins s σ H x vs v us Q I rx rv h
  obtain ⟨l, b, xs, zs, rfl, rfl, hH, hB, hz, q⟩ := h
  cases rx
  obtain ⟨u, rfl, ru⟩ := rv.one
  cases ru
  obtain ⟨z, its, n, r, hl, e⟩ := I.lstM hH
  obtain ⟨z2, its2, n2, r2, e2⟩ := hB.ok I.hok
  have hl2 := r2.length
  have hsz : its.toArray.size + its2.toArray.size ≤ sizeLine := by rw [List.size_toArray, List.size_toArray]; omega
  have hlong : ¬ (!its.toArray.isEmpty && Builtin.List.listTooLong (its.toArray.size + its2.toArray.size)) = true := by
    rw [notLongL hsz, Bool.and_false]
    exact Bool.false_ne_true
  refine call_meets F.slot_list_extend ⟨_, e, rfl⟩ F.entry_list_extend (F.args_list_extend_2 _ _)
    (AutoSeq1.list_extend_list_list_0 l its.toArray n b its2.toArray n2 hlong (by rw [List.size_toArray]; omega) (by omega)) ⟨e, e2, ?_⟩
  refine ⟨.non, _, I.lset (its' := its ++ its2) hH e (by simp) (r.append r2) ?_, rfl, q⟩
  rw [List.length_append]
  omega
theorem mt_extendM : MtR X "list.extend" (RMm X.K cn extendO) := by
  intro pins s σ H x xs v us Q I rx rs h
  obtain ⟨r, m, a, as, c, m', hr, ha, has, e, q⟩ := h
  unfold extendO at e
  split at e
  · rename_i n k he
    split at e
    · rename_i zs ys ek el
      split at e
      · rename_i hz
        cases e
        cases he
        cases has with
        | cons hy tn =>
          cases tn
          cases ha with
          | ref hk =>
            cases hr.at_ _ _ _ ek hk with
            | lst l1 t1 =>
              obtain ⟨p2, vs2, rfl, l2, t2⟩ := lst_at hr hy el
              obtain ⟨hr2, x2⟩ := hr.setL hk l1 (t1.app t2)
              exact mt_extendR pins s σ H _ _ v us Q I rx rs ⟨_, _, _, _, rfl, rfl, l1, l2, by rw [← t1.length, ← t2.length]; exact hz, q r _ _ x2 hr2 .non⟩
      · cases e
    · cases e
  · cases e
/-- all(xs), xs a list of bools -/
def boolsOf : List MV → Option (List Bool)
  | [] => some []
  | .bl b :: r => (boolsOf r).map (b :: ·)
  | _ :: _ => none
theorem bools_rv {K : PySem.W.Frag} {cn : Cn} {r : Rho} {H : Hp} : ∀ {ms : List MV} {vs : List V} {bs : List Bool}, RVs K cn r H ms vs → boolsOf ms = some bs → vs = bs.map V.bl
  | _, _, bs, .nil, e => by cases e; rfl
  | _, _, bs, .cons (m := m) h t, e => by
    cases h with
    | bl b =>
      obtain ⟨bs', e1, rfl⟩ := Option.map_eq_some_iff.mp e
      rw [bools_rv t e1]
      rfl
    | _ => cases e
def allO (any : Bool) : OPn := fun as m => match as with
  | [a] => (lstM m a).bind fun xs => (boolsOf xs).map fun bs => (.bl (if any then bs.any _root_.id else bs.all _root_.id), m)
  | _ => none
theorem call_allM (hc : X.calm = true) : CallR X (.builtin "all") (RMn X.K cn (allO false)) := by
  intro pins s σ H xs us Q I rs h
  obtain ⟨r, m, as, c, m', hr, ha, e, q⟩ := h
  unfold allO at e
  split at e
  · obtain ⟨ys, e0, e⟩ := Option.bind_eq_some_iff.mp e
    obtain ⟨bs, e1, e2⟩ := Option.map_eq_some_iff.mp e
    cases e2
    cases ha with
    | cons h1 tn =>
      cases tn
      obtain ⟨p1, vs1, rfl, l1, t1⟩ := lst_at hr h1 e0
      rw [bools_rv t1 e1] at l1
      exact cr_all hc pins s σ H _ us Q I rs ⟨_, bs, rfl, .inl l1, q r H _ .refl hr (.bl _)⟩
  · cases e
theorem call_anyM (hc : X.calm = true) : CallR X (.builtin "any") (RMn X.K cn (allO true)) := by
  intro pins s σ H xs us Q I rs h
  obtain ⟨r, m, as, c, m', hr, ha, e, q⟩ := h
  unfold allO at e
  split at e
  · obtain ⟨ys, e0, e⟩ := Option.bind_eq_some_iff.mp e
    obtain ⟨bs, e1, e2⟩ := Option.map_eq_some_iff.mp e
    cases e2
    cases ha with
    | cons h1 tn =>
      cases tn
      obtain ⟨p1, vs1, rfl, l1, t1⟩ := lst_at hr h1 e0
      rw [bools_rv t1 e1] at l1
      exact cr_any hc pins s σ H _ us Q I rs ⟨_, bs, rfl, .inl l1, q r H _ .refl hr (.bl _)⟩
  · cases e
def intsOf : List MV → Option (List Int)
  | [] => some []
  | .int i :: r => (intsOf r).map (i :: ·)
  | _ :: _ => none
theorem ints_rv {K : PySem.W.Frag} {cn : Cn} {r : Rho} {H : Hp} : ∀ {ms : List MV} {vs : List V} {is : List Int}, RVs K cn r H ms vs → intsOf ms = some is → vs = is.map V.int
  | _, _, bs, .nil, e => by cases e; rfl
  | _, _, bs, .cons (m := m) h t, e => by
    cases h with
    | int b =>
      obtain ⟨bs', e1, rfl⟩ := Option.map_eq_some_iff.mp e
      rw [ints_rv t e1]
      rfl
    | _ => cases e
def sumO : OPn := fun as m => match as with
  | [a] => (lstM m a).bind fun xs => (intsOf xs).map fun is => (.int is.sum, m)
  | _ => none
theorem call_sumM (hc : X.calm = true) : CallR X (.builtin "sum") (RMn X.K cn sumO) := by
  intro pins s σ H xs us Q I rs h
  obtain ⟨r, m, as, c, m', hr, ha, e, q⟩ := h
  unfold sumO at e
  split at e
  · obtain ⟨ys, e0, e⟩ := Option.bind_eq_some_iff.mp e
    obtain ⟨bs, e1, e2⟩ := Option.map_eq_some_iff.mp e
    cases e2
    cases ha with
    | cons h1 tn =>
      cases tn
      obtain ⟨p1, vs1, rfl, l1, t1⟩ := lst_at hr h1 e0
      rw [ints_rv t1 e1] at l1
      exact cr_sum hc pins s σ H _ us Q I rs ⟨_, bs, rfl, .inl l1, q r H _ .refl hr (.int _)⟩
  · cases e
end
end Mi
end

section
set_option Elab.async false
set_option linter.all false
set_option maxRecDepth 100000
set_option maxHeartbeats 2000000
namespace Mi
open PySem PySem.Spec PyProof.Rows L2

/-! ### statements -/
inductive SO where
  | nx (e : ME) (m : MH) | rt (a : MV) (m : MH) | bk (e : ME) (m : MH) | ct (e : ME) (m : MH) | exc (x : MX) (e : ME) (m : MH) | bad
abbrev SM := ME → MH → SO
def PostS (K : PySem.W.Frag) (cn : Cn) (W : WX) (D : Ends) (r : Rho) (H : Hp) : SO → Prop
  | .nx e m => ∀ r' H' s', Ext r H r' H' → HR K cn r' m H' → SR K cn r' H' e s' → D.nx s' H'
  | .rt a m => ∀ r' H' v, Ext r H r' H' → HR K cn r' m H' → RV K cn r' H' a v → D.rt v H'
  | .bk e m => ∀ r' H' s', Ext r H r' H' → HR K cn r' m H' → SR K cn r' H' e s' → D.bk s' H'
  | .ct e m => ∀ r' H' s', Ext r H r' H' → HR K cn r' m H' → SR K cn r' H' e s' → D.ct s' H'
  | .exc x e m => ∀ r' H' s' cls d, Ext r H r' H' → HR K cn r' m H' → SR K cn r' H' e s' → ER K cn r' H' x cls d → W cls d s' H'
  | .bad => False
def LS (K : PySem.W.Frag) (cn : Cn) (W : WX) (g : SM) : TS := fun D s H => ∃ (r : Rho) (m : MH) (e : ME), SR K cn r H e s ∧ HR K cn r m H ∧ PostS K cn W D r H (g e m)
abbrev JS (X : Cx) (cn : Cn) (W : WX) (st : Stmt) (g : SM) : Prop := PS X st (LS X.K cn W g)
abbrev JSs (X : Cx) (cn : Cn) (W : WX) (st : List Stmt) (g : SM) : Prop := PSs X st (LS X.K cn W g)
theorem ps_imp {X : Cx} {e : Stmt} {t t' : TS} (h : PS X e t) (i : ∀ D s H, t' D s H → t D s H) : PS X e t' := ⟨fun pins s σ H D I q => h.run pins s σ H D I (i _ _ _ q)⟩
theorem pss_imp {X : Cx} {e : List Stmt} {t t' : TS} (h : PSs X e t) (i : ∀ D s H, t' D s H → t D s H) : PSs X e t' := ⟨fun pins s σ H D I q => h.run pins s σ H D I (i _ _ _ q)⟩
section
variable {K : PySem.W.Frag} {cn : Cn} {W : WX} {D : Ends} {r r1 : Rho} {H H1 : Hp}
theorem PostS.ext : ∀ {o : SO}, PostS K cn W D r H o → Ext r H r1 H1 → PostS K cn W D r1 H1 o
  | .nx _ _, p, x => fun r' H' s' y => p r' H' s' (x.trans y)
  | .rt _ _, p, x => fun r' H' s' y => p r' H' s' (x.trans y)
  | .bk _ _, p, x => fun r' H' s' y => p r' H' s' (x.trans y)
  | .ct _ _, p, x => fun r' H' s' y => p r' H' s' (x.trans y)
  | .exc _ _ _, p, x => fun r' H' s' c d y => p r' H' s' c d (x.trans y)
  | .bad, p, _ => p
end
/-- an expression, then .. -/
def doE (f : EM) (k : MV → SM) : SM := fun e m => match f e m with
  | .ok a m' => k a e m'
  | .exc x m' => .exc x e m'
  | .bad => .bad
theorem doE_wp {K : PySem.W.Frag} {cn : Cn} {W : WX} {D : Ends} {r : Rho} {H : Hp} {f : EM} {k : MV → SM} {e : ME} {m : MH} {s : L2.St} (hs : SR K cn r H e s) (p : PostS K cn W D r H (doE f k e m)) :
    Wp (f e m) (fun a m' => PostS K cn W D r H (k a e m')) (PostX K cn W s r H) := by
  unfold doE at p
  cases q : f e m with
  | ok a m' => rw [q] at p; exact p
  | exc x m' =>
    rw [q] at p
    exact fun r' H' cls d x hr he => p r' H' s cls d x hr (hs.ext x) he
  | bad => rw [q] at p; exact p
def doT (f : ME → MM Bool) (k : Bool → SM) : SM := fun e m => match f e m with
  | .ok a m' => k a e m'
  | .exc x m' => .exc x e m'
  | .bad => .bad
theorem doT_wp {K : PySem.W.Frag} {cn : Cn} {W : WX} {D : Ends} {r : Rho} {H : Hp} {f : ME → MM Bool} {k : Bool → SM} {e : ME} {m : MH} {s : L2.St} (hs : SR K cn r H e s) (p : PostS K cn W D r H (doT f k e m)) :
    Wp (f e m) (fun a m' => PostS K cn W D r H (k a e m')) (PostX K cn W s r H) := by
  unfold doT at p
  cases q : f e m with
  | ok a m' => rw [q] at p; exact p
  | exc x m' =>
    rw [q] at p
    exact fun r' H' cls d x hr he => p r' H' s cls d x hr (hs.ext x) he
  | bad => rw [q] at p; exact p
section
variable {X : Cx} {cn : Cn} {W : WX} {pos : Pos} {a b : Expr} {f g : EM} {st : Stmt} {rest : List Stmt} {gs hs : SM}
def sNil : SM := fun e m => .nx e m
theorem s_nil : JSs X cn W [] sNil := pss_imp pss_nil fun D s H ⟨r, m, e, hs, hr, p⟩ => p r H s .refl hr hs
def sSeq (g h : SM) : SM := fun e m => match g e m with
  | .nx e' m' => h e' m'
  | o => o
theorem s_cons (h1 : JS X cn W st gs) (h2 : JSs X cn W rest hs) : JSs X cn W (st :: rest) (sSeq gs hs) := by
  refine pss_imp (pss_cons h1 h2) fun D s H ⟨r, m, e, h3, hr, p⟩ => ⟨r, m, e, h3, hr, ?_⟩
  unfold sSeq at p
  cases q : gs e m with
  | nx e' m' =>
    rw [q] at p
    exact fun r' H' s' x hr' hs' => ⟨r', m', e', hs', hr', PostS.ext p x⟩
  | _ => rw [q] at p; exact p
theorem s_one (h1 : JS X cn W st gs) : JSs X cn W [st] gs := pss_one h1
theorem s_pass : JS X cn W (.Pass pos) sNil := ps_imp ps_pass fun D s H ⟨r, m, e, hs, hr, p⟩ => p r H s .refl hr hs
def sExpr (f : EM) : SM := doE f fun _ e m => .nx e m
theorem s_expr (he : JE X cn W a f) (hs : swapsWith a none pos.line X.env = pure false := by rfl) : JS X cn W (.Expr a pos) (sExpr f) :=
  ps_imp (ps_expr he hs) fun D s H ⟨r, m, e, hs, hr, p⟩ => ⟨r, m, e, hs, hr, (doE_wp hs p).mono (fun y m1 w1 r1 H1 v x1 hr1 hv => w1 r1 H1 s x1 hr1 (hs.ext x1)) fun _ _ q => q⟩
def sRet (f : EM) : SM := doE f fun a _ m => .rt a m
theorem s_ret (he : JE X cn W a f) : JS X cn W (.Return (some a) pos) (sRet f) :=
  ps_imp (ps_ret he) fun D s H ⟨r, m, e, hs, hr, p⟩ => ⟨r, m, e, hs, hr, (doE_wp hs p).mono (fun y m1 w1 r1 H1 v x1 hr1 hv => w1 r1 H1 v x1 hr1 hv) fun _ _ q => q⟩
def sRetN : SM := fun _ m => .rt .non m
theorem s_retN : JS X cn W (.Return none pos) sRetN := ps_imp ps_retN fun D s H ⟨r, m, e, hs, hr, p⟩ => p r H _ .refl hr .non
def sSet (i : Nat) (f : EM) : SM := doE f fun a e m => .nx (e.set i (some a)) m
theorem s_set {i : Nat} {x : Str} {pos' : Pos} (he : JE X cn W a f) (hN : X.N.Nodup) (hi : X.N[i]? = some x := by rfl) (hx : Loc X.env.scope x := by first | exact Or.inl rfl | exact Or.inr rfl) (hs : swapsWith a (some (.Name x pos')) pos.line X.env = pure false := by rfl)
    (hf : X.fn x = true ∨ X.env.scope.names.lookup x = some .local := by first | exact .inl rfl | exact .inr rfl | assumption) : JS X cn W (.Assign [.Name x pos'] a pos) (sSet i f) :=
  ps_imp (ps_set hN hi hx he hs hf) fun D s H ⟨r, m, e, hs, hr, p⟩ => ⟨r, m, e, hs, hr, (doE_wp hs p).mono (fun y m1 w1 r1 H1 v x1 hr1 hv => w1 r1 H1 _ x1 hr1 ((hs.ext x1).set hv)) fun _ _ q => q⟩
def sIf (t : ME → MM Bool) (g h : SM) : SM := doT t fun b => if b then g else h
theorem s_if {tf : ME → MM Bool} {body orelse : List Stmt} (hc : JT X cn W a tf) (ha : JSs X cn W body gs) (hb : JSs X cn W orelse hs) : JS X cn W (.If a body orelse pos) (sIf tf gs hs) := by
  refine ps_imp (ps_if hc ha hb) fun D s H ⟨r, m, e, h3, hr, p⟩ => ⟨r, m, e, h3, hr, (doT_wp h3 p).mono (fun y m1 w1 r1 H1 x1 hr1 => ?_) fun _ _ q => q⟩
  cases y with
  | true =>
    rw [if_pos rfl]
    exact ⟨r1, m1, e, h3.ext x1, hr1, PostS.ext w1 x1⟩
  | false =>
    rw [if_neg Bool.false_ne_true]
    exact ⟨r1, m1, e, h3.ext x1, hr1, PostS.ext w1 x1⟩

/-! ### targets -/
/-- names, and tuples of such; ts: the slots that may change -/
abbrev GM := MV → ME → Option ME
def Same (ts : List Nat) (s s' : L2.St) : Prop := s'.length = s.length ∧ ∀ i, i ∉ ts → s'[i]? = s[i]?
theorem Same.refl {ts : List Nat} {s : L2.St} : Same ts s s := ⟨rfl, fun _ _ => rfl⟩
theorem Same.trans {ts : List Nat} {s s1 s2 : L2.St} (a : Same ts s s1) (b : Same ts s1 s2) : Same ts s s2 := ⟨b.1.trans a.1, fun i h => (b.2 i h).trans (a.2 i h)⟩
theorem Same.mono {ts us : List Nat} {s s1 : L2.St} (a : Same ts s s1) (h : ∀ i ∈ ts, i ∈ us) : Same us s s1 := ⟨a.1, fun i n => a.2 i fun z => n (h i z)⟩
theorem Same.set {i : Nat} {s : L2.St} {v : Option V} : Same [i] s (s.set i v) := ⟨by simp, fun j h => by
  have : i ≠ j := fun z => h (by simp [z])
  rw [List.getElem?_set_ne this]⟩
theorem wipe_same {ts : List Nat} {s s' : L2.St} : ∀ {vs : List Nat}, Same ts s s' → (∀ i ∈ ts, i ∈ vs) → wipe s' vs = wipe s vs := fun {vs} a h => by
  apply List.ext_getElem?
  intro i
  by_cases hi : i ∈ vs
  · have e : ∀ (s : L2.St) (vs : List Nat), i ∈ vs → (wipe s vs)[i]? = if i < s.length then some none else none := fun s vs hi => by
      induction vs with
      | nil => cases hi
      | cons v vs ih =>
        unfold wipe
        by_cases q : v = i
        · subst q
          by_cases l : v < s.length
          · rw [List.getElem?_set_self (by rw [wipe_length]; exact l), if_pos l]
          · rw [List.getElem?_eq_none (by rw [List.length_set, wipe_length]; omega), if_neg l]
        · rw [List.getElem?_set_ne q]
          rcases List.mem_cons.mp hi with z | z
          · exact absurd z.symm q
          · exact ih z
    rw [e s' vs hi, e s vs hi, a.1]
  · rw [wipe_out hi, wipe_out hi]
    exact a.2 i fun z => hi (h i z)
def LG (K : PySem.W.Frag) (cn : Cn) (ts : List Nat) (g : GM) : TG := fun v s H Q => ∃ (r : Rho) (m : MH) (e e' : ME) (a : MV), SR K cn r H e s ∧ HR K cn r m H ∧ RV K cn r H a v ∧ g a e = some e' ∧ ∀ r' H' s', Ext r H r' H' → HR K cn r' m H' → SR K cn r' H' e' s' → Same ts s s' → Q s' H'
def LGs (K : PySem.W.Frag) (cn : Cn) (ts : List Nat) (g : List MV → ME → Option ME) : TGs := fun v s H Q => ∃ (r : Rho) (m : MH) (e e' : ME) (a : List MV), SR K cn r H e s ∧ HR K cn r m H ∧ RVs K cn r H a v ∧ g a e = some e' ∧ ∀ r' H' s', Ext r H r' H' → HR K cn r' m H' → SR K cn r' H' e' s' → Same ts s s' → Q s' H'
abbrev JG (X : Cx) (cn : Cn) (ts : List Nat) (e : Expr) (g : GM) : Prop := PG X e (LG X.K cn ts g)
abbrev JGs (X : Cx) (cn : Cn) (ts : List Nat) (e : List Expr) (g : List MV → ME → Option ME) : Prop := PGs X e (LGs X.K cn ts g)
theorem pg_imp {e : Expr} {t t' : TG} (h : PG X e t) (i : ∀ v s H Q, t' v s H Q → t v s H Q) : PG X e t' := ⟨fun pins s σ H v u Q I rv q => h.run pins s σ H v u Q I rv (i _ _ _ _ q)⟩
theorem pgs_imp {e : List Expr} {t t' : TGs} (h : PGs X e t) (i : ∀ v s H Q, t' v s H Q → t v s H Q) : PGs X e t' := ⟨fun pins s σ H v u Q I rv q => h.run pins s σ H v u Q I rv (i _ _ _ _ q)⟩
def gNm (i : Nat) : GM := fun a e => some (e.set i (some a))
theorem g_name {i : Nat} {x : Str} (hN : X.N.Nodup) (hi : X.N[i]? = some x := by rfl) (hx : Loc X.env.scope x := by first | exact Or.inl rfl | exact Or.inr rfl) (hf : X.fn x = true ∨ X.env.scope.names.lookup x = some .local := by first | exact .inl rfl | exact .inr rfl | assumption) :
    JG X cn [i] (.Name x pos) (gNm i) := pg_imp (pg_name hN hi hx hf) fun v s H Q ⟨r, m, e, e', a, hs, hr, ha, q, k⟩ => by
  cases q
  exact k r H _ .refl hr (hs.set ha) .set
def gsNil : List MV → ME → Option ME := fun as e => match as with
  | [] => some e
  | _ => none
def gsCons (g : GM) (h : List MV → ME → Option ME) : List MV → ME → Option ME := fun as e => match as with
  | a :: r => (g a e).bind fun e' => h r e'
  | [] => none
theorem gs_nil : JGs X cn [] [] gsNil := pgs_imp pgs_nil fun v s H Q ⟨r, m, e, e', a, hs, hr, ha, q, k⟩ => by
  unfold gsNil at q
  split at q
  · cases q
    cases ha
    exact ⟨rfl, k r H s .refl hr hs .refl⟩
  · cases q
theorem gs_cons {es : List Expr} {g1 : GM} {h1 : List MV → ME → Option ME} {ts us : List Nat} (ha : JG X cn ts a g1) (hb : JGs X cn us es h1) (hs : (assignEach (a :: es) X.env).map (·.2) = assign a X.env :: (assignEach es X.env).map (·.2) := by rfl) : JGs X cn (ts ++ us) (a :: es) (gsCons g1 h1) :=
  pgs_imp (pgs_cons ha hb hs) fun v s H Q ⟨r, m, e, e', as, hs, hr, ha, q, k⟩ => by
    unfold gsCons at q
    split at q
    · obtain ⟨e1, q1, q2⟩ := Option.bind_eq_some_iff.mp q
      cases ha with
      | cons h1 t1 => exact ⟨_, _, rfl, r, m, e, e1, _, hs, hr, h1, q1, fun r1 H1 s1 x1 hr1 hs1 m1 => ⟨r1, m, e1, e', _, hs1, hr1, t1.ext x1, q2, fun r2 H2 s2 x2 hr2 hs2 m2 => k r2 H2 s2 (x1.trans x2) hr2 hs2 ((m1.mono fun i h => List.mem_append_left _ h).trans (m2.mono fun i h => List.mem_append_right _ h))⟩⟩
    · cases q
def gTp (g : List MV → ME → Option ME) : GM := fun a e => match a with
  | .tup xs => g xs e
  | _ => none
theorem g_tup {es : List Expr} {k n : Nat} {ts : List Nat} {h1 : List MV → ME → Option ME} (hc : X.calm = true) (h : JGs X cn ts es h1) (hz : ∀ as e e', h1 as e = some e' → as.length = n)
    (hn : (assignEach es X.env).length = n := by rfl) (hst : (assignEach es X.env).findIdx? (·.1) = none := by rfl) : JG X cn ts (.Tuple es k pos) (gTp h1) :=
  pg_imp (pg_tup hc h hn hst) fun v s H Q ⟨r, m, e, e', a, hs, hr, ha, q, kk⟩ => by
    unfold gTp at q
    split at q
    · cases ha with
      | tup h2 t2 => exact ⟨_, _, rfl, h2, by rw [← t2.length]; exact hz _ _ _ q, r, m, e, e', _, hs, hr, t2, q, kk⟩
    · cases q
theorem gsNil_len : ∀ as e e', gsNil as e = some e' → as.length = 0 := fun as e e' q => by
  unfold gsNil at q
  split at q
  · rfl
  · cases q
theorem gsCons_len {g1 : GM} {h1 : List MV → ME → Option ME} {n : Nat} (h : ∀ as e e', h1 as e = some e' → as.length = n) : ∀ as e e', gsCons g1 h1 as e = some e' → as.length = n + 1 := fun as e e' q => by
  unfold gsCons at q
  split at q
  · obtain ⟨e1, q1, q2⟩ := Option.bind_eq_some_iff.mp q
    rw [List.length_cons, h _ _ _ q2]
  · cases q
def sAsg (g : GM) (f : EM) : SM := doE f fun a e m => match g a e with
  | some e' => .nx e' m
  | none => .bad
theorem s_asg {tg : Expr} {g1 : GM} {ts : List Nat} (he : JE X cn W a f) (hg : JG X cn ts tg g1) (hs : swapsWithSole [tg] a pos.line X.env = pure false := by rfl) (hw : swappedStores [tg] a X.env = pure none := by rfl)
    (h1 : (assignEach [tg] X.env).map (·.2) = [assign tg X.env] := by rfl) : JS X cn W (.Assign [tg] a pos) (sAsg g1 f) :=
  ps_imp (ps_asg he hg hs hw h1) fun D s H ⟨r, m, e, hs, hr, p⟩ => ⟨r, m, e, hs, hr, (doE_wp hs p).mono (fun y m1 w1 r1 H1 v x1 hr1 hv => by
    cases q : g1 y e with
    | none => simp only [q] at w1; exact w1.elim
    | some e' =>
      simp only [q] at w1
      exact ⟨r1, m1, e, e', y, hs.ext x1, hr1, hv, q, fun r2 H2 s2 x2 hr2 hs2 _ => w1 r2 H2 s2 (x1.trans x2) hr2 hs2⟩) fun _ _ q => q⟩
/-- a, b = x, y, plain local names -/
def sPar (i j : Nat) (af : ME → MM (List MV)) : SM := fun e m => match af e m with
  | .ok [x, y] m' => .nx ((e.set i (some x)).set j (some y)) m'
  | .ok _ _ => .bad
  | .exc x m' => .exc x e m'
  | .bad => .bad
theorem s_par {i j : Nat} {x y : Str} {px py pt : Pos} {kt k2 : Nat} {pt2 : Pos} {af : ME → MM (List MV)} (hc : X.calm = true) (hN : X.N.Nodup) (ha : JA X cn W [a, b] af) (hi : X.N[i]? = some x := by rfl) (hj : X.N[j]? = some y := by rfl) (hij : i ≠ j := by decide)
    (hx : X.env.scope.names.lookup x = some .local := by rfl) (hy : X.env.scope.names.lookup y = some .local := by rfl)
    (hw : swappedStores [.Tuple [.Name x px, .Name y py] kt pt] (.Tuple [a, b] k2 pt2) X.env = pure (some [x, y]) := by rfl)
    (hs : swapsWithSole [.Tuple [.Name x px, .Name y py] kt pt] (.Tuple [a, b] k2 pt2) pos.line X.env = pure false := by rfl) : JS X cn W (.Assign [.Tuple [.Name x px, .Name y py] kt pt] (.Tuple [a, b] k2 pt2) pos) (sPar i j af) :=
  ps_imp (ps_par hc hN hi hj hij hx hy ha hw hs) fun D s H ⟨r, m, e, hs, hr, p⟩ => by
    refine ⟨r, m, e, hs, hr, ?_⟩
    unfold sPar at p
    cases q : af e m with
    | ok l m' =>
      rw [q] at p
      match l, p with
      | [], p => exact p.elim
      | [_], p => exact p.elim
      | _ :: _ :: _ :: _, p => exact p.elim
      | [x, y], p =>
        intro r1 H1 vs x1 hr1 hv
        cases hv with
        | cons h1 t1 =>
          cases t1 with
          | cons h2 t2 =>
            cases t2
            exact ⟨_, _, rfl, p r1 H1 _ x1 hr1 (((hs.ext x1).set h1).set h2)⟩
    | exc x m' =>
      rw [q] at p
      exact fun r' H' cls d x hr he => p r' H' s cls d x hr (hs.ext x) he
    | bad => rw [q] at p; exact p
/-- x op= e -/
def sAug (i : Nat) (h : OP2) (f : EM) : SM := fun e m => match e[i]? with
  | some (some x) => doE f (fun y e m => match h x y m with
    | some (c, m') => .nx (e.set i (some c)) m'
    | none => .bad) e m
  | _ => .bad
def PIM (X : Cx) (cn : Cn) (op : Operator) (h : OP2) : Prop := PIp X op (RM X.K cn h)
theorem s_aug {i : Nat} {x : Str} {pos' : Pos} {op : Operator} {h : OP2} (he : JE X cn W a f) (ho : PIM X cn op h) (hN : X.N.Nodup) (hi : X.N[i]? = some x := by rfl) (hx : Loc X.env.scope x := by first | exact Or.inl rfl | exact Or.inr rfl)
    (hf : X.fn x = true ∨ X.env.scope.names.lookup x = some .local := by first | exact .inl rfl | exact .inr rfl | assumption) : JS X cn W (.AugAssign (.Name x pos') op a pos) (sAug i h f) :=
  ps_imp (ps_aug hN hi hx he ho hf) fun D s H ⟨r, m, e, hs, hr, p⟩ => by
    unfold sAug at p
    split at p
    · rename_i y q
      obtain ⟨v, h1, h2⟩ := hs.2 i y q
      refine ⟨v, h1, r, m, e, hs, hr, (doE_wp hs p).mono (fun z m1 w1 r1 H1 u x1 hr1 hv => ?_) fun _ _ q => q⟩
      cases q2 : h y z m1 with
      | none => simp only [q2] at w1; exact w1.elim
      | some c =>
        simp only [q2] at w1
        exact ⟨r1, m1, y, z, c.1, c.2, hr1, h2.ext x1, hv, q2, fun r2 H2 v2 x2 hr2 hv2 => w1 r2 H2 _ (x1.trans x2) hr2 ((hs.ext (x1.trans x2)).set hv2)⟩
    · exact p.elim
theorem ip_addM : PIM X cn .Add (fun a b m => match a, b with | .int i, .int j => some (.int (i + j), m) | _, _ => none) := by
  intro pins s σ H x y v u Q I rx ry h
  obtain ⟨r, m, a, b, c, m', hr, ha, hb, e, p⟩ := h
  simp only at e
  split at e
  · cases e
    rw [rv_int ha] at rx
    rw [rv_int hb] at ry
    exact ip_add pins s σ H _ _ v u Q I rx ry ⟨_, _, rfl, rfl, p r H _ .refl hr (.int _)⟩
  · cases e
/-- o[i] = e, a list -/
def setO (o i v : MV) (m : MH) : Option MH := match o, i with
  | .ref n, .int k => (match m[n]? with
    | some (.lst xs) => (ixN xs.length k).map fun j => m.set n (.lst (xs.set j v))
    | _ => none)
  | _, _ => none
def sSetIx (f g h : EM) : SM := doE f fun v => doE g fun o => doE h fun i => fun e m => match setO o i v m with
  | some m' => .nx e m'
  | none => .bad
theorem s_setIx {o i : Expr} {tpos : Pos} {fo fi : EM} (he : JE X cn W a f) (ho : JE X cn W o fo) (hi : JE X cn W i fi)
    (ha : ∀ v, assign (.Subscript o i tpos) X.env v = (do
      let ov ← holding [v] (eval o X.env)
      let iv ← holding [v, ov] (eval i X.env)
      standAt tpos
      holding [v, ov, iv] (setItem ov iv v)
      release [v, ov, iv] []) := by intro _; rfl)
    (hs : swapsWithSole [.Subscript o i tpos] a pos.line X.env = pure false := by rfl) (hw : swappedStores [.Subscript o i tpos] a X.env = pure none := by rfl)
    (h1 : (assignEach [.Subscript o i tpos] X.env).map (·.2) = [assign (.Subscript o i tpos) X.env] := by rfl) : JS X cn W (.Assign [.Subscript o i tpos] a pos) (sSetIx f fo fi) :=
  ps_imp (ps_asg he (pg_sub ho hi set_list ha) hs hw h1) fun D s H ⟨r, m, e, hs, hr, p⟩ => ⟨r, m, e, hs, hr, (doE_wp hs p).mono (fun y m1 w1 r1 H1 v x1 hr1 hv => by
    have w1 := PostS.ext w1 x1
    refine ⟨r1, m1, e, hs.ext x1, hr1, (doE_wp (hs.ext x1) w1).mono (fun z m2 w2 r2 H2 v2 x2 hr2 hv2 => ?_) fun _ _ q => q⟩
    have w2 := PostS.ext w2 x2
    refine ⟨r2, m2, e, hs.ext (x1.trans x2), hr2, (doE_wp (hs.ext (x1.trans x2)) w2).mono (fun k m3 w3 r3 H3 v3 x3 hr3 hv3 => ?_) fun _ _ q => q⟩
    have w3 := PostS.ext w3 x3
    unfold setO at w3
    have hz := hv2.ext x3
    have hy := hv.ext (x2.trans x3)
    cases hz with
    | ref hk =>
      cases hv3 with
      | int k =>
        obtain ⟨o, h2, h3⟩ := hr3.get hk
        simp only [h2] at w3
        cases h3 with
        | lst l1 t1 =>
          simp only at w3
          cases q : ixN _ k with
          | none => rw [q] at w3; exact w3.elim
          | some j =>
            rw [q] at w3
            obtain ⟨hr4, x4⟩ := hr3.setL hk l1 (RVs.set hy j t1)
            exact ⟨_, _, _, _, rfl, rfl, l1, by rw [← t1.length]; exact q, w3 _ _ _ x4 hr4 (hs.ext (x1.trans (x2.trans (x3.trans x4))))⟩
        | dct _ _ => exact w3.elim
        | ins _ _ => exact w3.elim
        | ded _ => exact w3.elim
      | _ => exact w3.elim
    | _ => exact w3.elim) fun _ _ q => q⟩
/-- o.f = e -/
def putM (x : Str) (a : MV) : List (Str × MV) → List (Str × MV)
  | [] => [(x, a)]
  | (k, b) :: r => if k = x then (k, a) :: r else (k, b) :: putM x a r
theorem RFs.put {K : PySem.W.Frag} {r : Rho} {H : Hp} {x : Str} {a : MV} {v : V} (ha : RV K cn r H a v) : ∀ {ms : List (Str × MV)} {vs : List (Str × V)}, RFs K cn r H ms vs → RFs K cn r H (putM x a ms) (putF x v vs)
  | _, _, .nil => .cons ha .nil
  | _, _, .cons (x := k) h t => by
    unfold putM putF
    by_cases q : k = x
    · rw [if_pos q, if_pos q]; exact .cons ha t
    · rw [if_neg q, if_neg q]; exact .cons h (RFs.put ha t)
theorem RFs.length {K : PySem.W.Frag} {r : Rho} {H : Hp} : ∀ {ms : List (Str × MV)} {vs : List (Str × V)}, RFs K cn r H ms vs → ms.length = vs.length
  | _, _, .nil => rfl
  | _, _, .cons _ t => by rw [List.length_cons, List.length_cons, RFs.length t]
theorem HR.setF {K : PySem.W.Frag} {r : Rho} {m : MH} {H : Hp} (h : HR K cn r m H) {i : Nat} {a d : Addr} {c : Str} {ys : List (Str × MV)} {vs us : List (Str × V)} (e : r[i]? = some (a, d)) (ho : H a = some (.ins (cn c) d vs)) (hv : RFs K cn r H ys us) :
    HR K cn r (m.set i (.ins c ys)) (upd H a (.ins (cn c) d us)) ∧ Ext r H r (upd H a (.ins (cn c) d us)) := by
  have hx : Ext r H r (upd H a (.ins (cn c) d us)) := ext_write e ho (fun _ z => by cases z) fun _ _ z => by cases z
  exact ⟨h.write e hx (.ins upd_same (hv.ext hx)), hx⟩
def putO (cs : List Str) (fd : Str) (v : MV) (o : MV) (m : MH) : Option MH := match o with
  | .ref n => (match m[n]? with
    | some (.ins c fs) => if c ∈ cs ∧ fs.length < 1000 then some (m.set n (.ins c (putM fd v fs))) else none
    | _ => none)
  | _ => none
def sSetF (cs : List Str) (fd : Str) (f g : EM) : SM := doE f fun v => doE g fun o => fun e m => match putO cs fd v o m with
  | some m' => .nx e m'
  | none => .bad
theorem s_setF {cs : List Str} {o : Expr} {fd : Str} {tpos : Pos} {fo : EM} (he : JE X cn W a f) (ho : JE X cn W o fo) (hc : ∀ c ∈ cs, Cls X.K (cn c) ∧ NoAttr X.K (cn c) fd)
    (hs : swapsWith a (some (.Attribute o fd tpos)) pos.line X.env = pure false := by rfl) : JS X cn W (.Assign [.Attribute o fd tpos] a pos) (sSetF cs fd f fo) :=
  ps_imp (ps_fld ho he hs) fun D s H ⟨r, m, e, hs, hr, p⟩ => ⟨r, m, e, hs, hr, (doE_wp hs p).mono (fun y m1 w1 r1 H1 v x1 hr1 hv => by
    have w1 := PostS.ext w1 x1
    refine ⟨r1, m1, e, hs.ext x1, hr1, (doE_wp (hs.ext x1) w1).mono (fun z m2 w2 r2 H2 v2 x2 hr2 hv2 => ?_) fun _ _ q => q⟩
    have w2 := PostS.ext w2 x2
    unfold putO at w2
    cases hv2 with
    | ref hk =>
      obtain ⟨o, h2, h3⟩ := hr2.get hk
      simp only [h2] at w2
      cases h3 with
      | ins l1 t1 =>
        simp only at w2
        split at w2
        · rename_i q
          split at q
          · rename_i hcs
            cases q
            obtain ⟨hr3, x3⟩ := hr2.setF hk l1 (RFs.put (x := fd) (hv.ext x2) t1)
            exact ⟨_, _, _, _, rfl, l1, (hc _ hcs.1).1, (hc _ hcs.1).2, by rw [← t1.length]; exact hcs.2, w2 _ _ _ x3 hr3 (hs.ext (x1.trans (x2.trans x3)))⟩
          · cases q
        · exact w2.elim
      | dct _ _ => exact w2.elim
      | lst _ _ => exact w2.elim
      | ded _ => exact w2.elim
    | _ => exact w2.elim) fun _ _ q => q⟩
end
end Mi
end

section
set_option Elab.async false
set_option linter.all false
set_option maxRecDepth 100000
set_option maxHeartbeats 2000000
namespace Mi
open PySem PySem.Spec PyProof.Rows L2

/-! ### enumerate(v), v told by how it begins -/
set_option maxHeartbeats 1000000 in
theorem meets_enum1 {v : Value} {o : Obj} {H : Heap → Prop} (B : Begins v o H) :
    Meets (Builtin.«enumerate.__new__» ⟨[.type "enumerate", v], []⟩) (fun _ R s => H s.heap ∧
      R (.ok (.ret (.ref (s.heap.push o).objs.size))) { s with heap := (s.heap.push o).push { cls := .type "enumerate", data := .fields #[.none, .bool false, .ref s.heap.objs.size, rawInt 0, .none, .none] } }) :=
  .of_wp fun prog w A R s h => by
    obtain ⟨hp, g, d, tk, os⟩ := s; obtain ⟨h1, h⟩ := h
    have hsub := sub_enumerate
    have q1 : ∀ {A' : Around} {E : Value → Shared → Prop} {Q : Value → Shared → Prop}, Q (.ref hp.objs.size) ⟨hp.push o, g, d, tk, os⟩ → wpAny (model prog w) A' (pyIter v) Q E ⟨hp, g, d, tk, os⟩ :=
      fun q => B.iter prog w _ _ ⟨hp, g, d, tk, os⟩ _ h1 q
    wp_walk using q1
    refine wpAny_stack_any fun st => wpAny_pure ?_
    split
    · rename_i c _ _ _ _ _
      cases (c == Value.type "enumerate")
      · wp_walk using q1
        exact ⟨_, rfl, h⟩
      · wp_walk using q1
        exact ⟨_, rfl, h⟩
    · wp_walk using q1
      exact ⟨_, rfl, h⟩
theorem call_enum1 {prog : Program} {w : World} {A : Around} {E : Value → Shared → Prop} {s : Shared} {v : Value} {o : Obj} {H : Heap → Prop} {Q : Value → Shared → Prop} (B : Begins v o H) (h1 : H s.heap)
    (h : ∀ h', IsEnum h' (s.heap.objs.size + 1) s.heap.objs.size 0 .none → h'.get? s.heap.objs.size = some o → h'.objs.size = s.heap.objs.size + 2 →
      (∀ b o, s.heap.get? b = some o → h'.get? b = some o) → Q (.ref (s.heap.objs.size + 1)) { s with heap := h' }) :
    wpAny (model prog w) A (call (.type "enumerate") [v]) Q E s := by
  refine callType_new F.called_enumerate (by decide) (F.typeCall_enumerate_1 _) (F.newCall_enumerate_1 _) (fun obj => F.args_object_init_2 obj _) F.entry_enumerate_new
    (meets_enum1 B) ⟨h1, ?_⟩
  have hz : (s.heap.push o).objs.size = s.heap.objs.size + 1 := Heap.size_push ..
  show _ ∧ _
  rw [hz]
  have he : IsEnum ((s.heap.push o).push { cls := .type "enumerate", data := .fields #[.none, .bool false, .ref s.heap.objs.size, rawInt 0, .none, .none] }) (s.heap.objs.size + 1) s.heap.objs.size 0 .none := by
    have := Heap.get?_push_size (s.heap.push o) (o := { cls := .type "enumerate", data := .fields #[.none, .bool false, .ref s.heap.objs.size, rawInt 0, .none, .none] }) rfl
    rw [hz] at this; exact this
  refine ⟨⟨_, he, rfl⟩, h _ he (Heap.get?_push_of_some _ (Heap.get?_push_size _ B.free)) (by rw [Heap.size_push, hz]) fun b o x => Heap.get?_push_of_some _ (Heap.get?_push_of_some _ x)⟩
/-- the tuple at a, each item in a new pair -/
def IteT (K : PySem.W.Frag) (a : Addr) : It :=
  ⟨fun i H => ∃ (xs : List V) (x : V), SqT K H a xs ∧ xs[i]? = some x, fun i H v H' => ∃ T x, v = .ref T ∧ H T = none ∧ H' = upd H T (.tup [.int (i : Nat), x]) ∧ ∀ xs, SqT K H a xs → xs[i]? = some x, fun i H => ∃ xs : List V, SqT K H a xs ∧ xs.length ≤ i⟩
theorem turn_enumT {P : Program} {w : World} {K : PySem.W.Frag} {elts : List Expr} {kk : Nat} {tpos : Pos} (a e it : Addr) (hae : a ≠ it) :
    Turn P w K (.Tuple elts kk tpos) (IteT K a) [e, it] e (fun i h => (∃ old, IsEnum h e it ((i : Nat) : Int) old) ∧ h.IsTupleIter it a i ∧ e ≠ it ∧ a ≠ e) where
  mem := by simp
  obj := fun i h st b hb => by
    obtain ⟨⟨old, he⟩, ⟨o, ho, hc, hd⟩, _⟩ := st
    have e' : b = e ∨ b = it := by simpa using hb
    rcases e' with z | z
    · rw [z]; exact ⟨_, he, fun v q => nomatch q⟩
    · rw [z]; exact ⟨o, ho, fun v q => by rw [hd] at q; cases q⟩
  keep := fun i h h' st k => let ⟨⟨old, he⟩, hi, hne⟩ := st; ⟨⟨old, k e (by simp) _ he⟩, hi.at fun o q => k it (by simp) o q, hne⟩
  item := by
    intro X hP hw hK hc i pins s σ H E I hf st hg
    subst hP hw hK
    obtain ⟨⟨old, he⟩, hit, hne, hane⟩ := st
    obtain ⟨xs, x, hq, hx⟩ := hg
    obtain ⟨its, rv, p, hz⟩ := I.tuple hq
    obtain ⟨u, hu, ru⟩ := rv.get hx
    have hel : e < s.heap.objs.size := Heap.lt_size he
    have hil : it < s.heap.objs.size := by obtain ⟨_, q, _⟩ := hit; exact Heap.lt_size q
    have hlt : i < its.toArray.size := by
      rw [List.size_toArray]
      exact (List.getElem?_eq_some_iff.mp hu).1
    refine wpAny_pyNext_enum_itemD (Draws.tuple (prog := X.prog) (w := X.w) (A := X.A.in1) (show X.A.in1.handled = none from I.ok.hd hc) it a hae its.toArray) he ⟨hit, show s.heap.IsTuple a its.toArray from p⟩ hlt hne (by simp [hne, Ne.symm hane]) fun u' h' tk hPx ho hst hT hsz hk => ?_
    have hu' : u' = u := by
      have z : its.toArray[i]? = some u := by simpa using hu
      rw [z] at hPx
      exact (Option.some.inj hPx).symm
    subst hu'
    refine ⟨_, rfl, wpAny_letOwnedTupleGo_enum (s := { s with heap := h', toks := tk + 1 }) ho fun h'' he' sb => ?_⟩
    have hT2 : h''.get? s.heap.objs.size = some { cls := .type "tuple", data := .seq #[.int i tk, u'] } := (sb.2 _ (Nat.ne_of_gt hel)).trans hT
    have new : ObjOk X.prog X.w (upd H s.heap.objs.size (.tup [.int (i : Nat), x])) h'' s.heap.objs.size (.tup [.int (i : Nat), x]) :=
      ⟨by show 2 ≤ sizeLine; decide, [.int i tk, u'], .cons ⟨_, rfl⟩ (.cons ru .nil), ⟨_, hT2, rfl, _, rfl⟩⟩
    have I1 : Inv X pins σ (upd H s.heap.objs.size (.tup [.int (i : Nat), x])) { s with heap := h'', toks := tk + 1 } :=
      I.turnedNew (ch := [e, it]) (fun b ob hb q => (sb.2 b (fun z => hb (by simp [z]))).trans (hk b ob (fun z => hb (by simp [z])) (fun z => hb (by simp [z])) q)) hf (Nat.le_refl _) new
    refine ⟨.ref s.heap.objs.size, _, I1, rfl, ⟨_, x, rfl, I.hok.fresh (Nat.le_refl _), rfl, fun ys hy => by rw [I.tuple_inj hy hq]; exact hx⟩, ⟨⟨u', ?_⟩, hst.1.at fun o q => (sb.2 it (Ne.symm hne)).trans q, hne, hane⟩, fun b hb => ?_⟩
    · have e1 : ((i + 1 : Nat) : Int) = (i : Int) + 1 := by omega
      rw [e1]; exact he'
    · have hb' : b < s.heap.objs.size := by
        have e' : b = e ∨ b = it := by simpa using hb
        rcases e' with z | z
        · rw [z]; exact hel
        · rw [z]; exact hil
      rw [upd_ne (Nat.ne_of_lt hb')]
      exact (hf b hb).1
  done := by
    intro X hP hw hK hc i pins s σ H E I hf st hg
    subst hP hw hK
    obtain ⟨⟨old, he⟩, hit, hne, hane⟩ := st
    obtain ⟨xs, hq, hx⟩ := hg
    obtain ⟨its, rv, p, hz⟩ := I.tuple hq
    obtain ⟨f0, f1, f2, f3, f4, f5⟩ := hf it (by simp)
    have hl := rv.length
    unfold pyNext
    have hT : s.TypeIs (.ref e) "enumerate" := ⟨_, he, rfl⟩
    refine wpAny_bind (wpAny_attempt (wpAny_callSpecial?_slot (name := Str.ofString "__next__") hT F.slot_enumerate_next
      (wpAny_call_entry F.slot_enumerate_next hT F.entry_enumerate_next ?_ (F.args_enumerate_next_1 _))))
    show wpAny _ _ (field (.ref e) 2 >>= _) _ _ _
    refine wpAny_bind (wpAny_field he rfl (x := .ref it) rfl ?_)
    refine wpAny_bind (wpAny_nextOf_tuple_end (show X.A.in1.handled = none from I.ok.hd hc) hit (show s.heap.IsTuple a its.toArray from p) (by simp; omega) fun h' x he' hx' => ?_)
    obtain ⟨o, ho, hc'⟩ := hx'
    refine wpAny_bind (wpAny_isInstance (T := "StopIteration") (b := true) ⟨o, ho, hc'⟩ isSubtype_stop ?_)
    exact wpAny_pure ⟨rfl, I.turned (t' := s.toks) (fun b o hb q => he' b o hb q) f0 f1 f3 f4 f5⟩
  self := fun A i s Q E st h => let ⟨⟨_, he⟩, _⟩ := st; wpAny_pyIter_enum he h
section
variable {X : Cx} {tg : Expr}
/-- a list or a tuple -/
def iSeq (K : PySem.W.Frag) (tl : TE) : TI := fun σ H R => tl σ H fun x H1 => ∃ a, x = .ref a ∧ (((∃ xs, SqL K H1 a xs) ∧ R (Itl K a) H1) ∨ ((∃ xs, SqT K H1 a xs) ∧ R (Itt K a) H1))
theorem pi_seq {l : Expr} {tl : TE} (hl : PE X l tl) : PI X tg l (iSeq X.K tl) := by
  refine ⟨fun pins s σ H R I h => ?_⟩
  refine thn (hl.run pins s σ H _ I h) fun v s1 ⟨x, H1, I1, r1, q1⟩ => ?_
  obtain ⟨a, e, q⟩ := q1
  subst e
  cases r1
  rcases q with ⟨⟨xs, hq⟩, q⟩ | ⟨⟨xs, hq⟩, q⟩
  · obtain ⟨its, rv, p, hz⟩ := I1.list hq
    refine wpAny_pyIter_list p.isList ?_
    refine ⟨s1.heap.objs.size, [s1.heap.objs.size], _, _, H1, rfl, I1.kept (t' := s1.toks) fun b o e => Heap.get?_push_of_some _ e, turn_list a _, ⟨_, Heap.get?_push_size _ rfl, rfl, rfl⟩, fun b hb => ?_, q⟩
    have e : b = s1.heap.objs.size := by simpa using hb
    subst e
    exact I1.fpOk (Nat.le_refl _) (I1.hok.fresh (Nat.le_refl _))
  · obtain ⟨its, rv, p, hz⟩ := I1.tuple hq
    refine wpAny_pyIter_tuple (show s1.heap.IsTuple a its.toArray from p) ?_
    refine ⟨s1.heap.objs.size, [s1.heap.objs.size], _, _, H1, rfl, I1.kept (t' := s1.toks) fun b o e => Heap.get?_push_of_some _ e, turn_tuple a _, ⟨_, Heap.get?_push_size _ rfl, rfl, rfl⟩, fun b hb => ?_, q⟩
    have e : b = s1.heap.objs.size := by simpa using hb
    subst e
    exact I1.fpOk (Nat.le_refl _) (I1.hok.fresh (Nat.le_refl _))
def iEnumS (K : PySem.W.Frag) (ta : TA) : TI := fun σ H R => ta σ H fun vs H1 => ∃ a, vs = [.ref a] ∧ (((∃ xs, SqL K H1 a xs) ∧ R (Ite K a) H1) ∨ ((∃ xs, SqT K H1 a xs) ∧ R (IteT K a) H1))
theorem pi_enumS {e : Expr} {ta : TA} {p pos tpos : Pos} {elts : List Expr} {kk : Nat} (hg : Gl X "enumerate") (hm : X.mg "enumerate" = none) (ha : PA X [e] ta) (hs : starEach [e] X.env = [(false, eval e X.env)] := by rfl) :
    PI X (.Tuple elts kk tpos) (.Call (.Name "enumerate" p) [e] [] pos) (iEnumS X.K ta) := by
  refine ⟨fun pins s σ H R I h => ?_⟩
  refine Call_ (ld_blt I hg hm boot_enumerate (PyProof.Rows.callWith_type1 (thn (ha.run pos pins s σ H _ I h) fun us s1 ⟨vs, H1, I1, r1, q1⟩ => ?_) hs rfl))
  obtain ⟨a, ex, q⟩ := q1
  subst ex
  cases r1 with
  | cons r rr =>
    cases rr
    cases r
    have fp : ∀ {H' : Hp}, H' = H1 → ∀ b ∈ [s1.heap.objs.size + 1, s1.heap.objs.size], FpOk X pins H' b := fun {H'} z b hb => by
      subst z
      have e' : b = s1.heap.objs.size + 1 ∨ b = s1.heap.objs.size := by simpa using hb
      have hle : s1.heap.objs.size ≤ b := by
        rcases e' with z | z
        · rw [z]; exact Nat.le_add_right _ _
        · rw [z]; exact Nat.le_refl _
      exact I1.fpOk hle (I1.hok.fresh hle)
    rcases q with ⟨⟨xs, hq⟩, q⟩ | ⟨⟨xs, hq⟩, q⟩
    · obtain ⟨its, rv, p', hz⟩ := I1.list hq
      refine call_enumerate_list p'.isList fun h' he hit hsz hk => wpAny_pyIter_enum he ?_
      have I2 : Inv X pins σ H1 { s1 with heap := h' } := I1.kept (t' := s1.toks) hk
      exact ⟨s1.heap.objs.size + 1, [s1.heap.objs.size + 1, s1.heap.objs.size], _, _, H1, rfl, I2, turn_enum a (s1.heap.objs.size + 1) s1.heap.objs.size, ⟨⟨.none, he⟩, hit, Nat.succ_ne_self _⟩, fp rfl, q⟩
    · obtain ⟨its, rv, p', hz⟩ := I1.tuple hq
      have hla : a < s1.heap.objs.size := p'.lt
      refine call_enum1 (begins_tuple a its.toArray) (show s1.heap.IsTuple a its.toArray from p') fun h' he hit hsz hk => wpAny_pyIter_enum he ?_
      have I2 : Inv X pins σ H1 { s1 with heap := h' } := I1.kept (t' := s1.toks) hk
      exact ⟨s1.heap.objs.size + 1, [s1.heap.objs.size + 1, s1.heap.objs.size], _, _, H1, rfl, I2, turn_enumT a (s1.heap.objs.size + 1) s1.heap.objs.size (Nat.ne_of_lt hla), ⟨⟨.none, he⟩, ⟨_, hit, rfl, rfl⟩, Nat.succ_ne_self _, Nat.ne_of_lt (Nat.lt_succ_of_lt hla)⟩, fp rfl, q⟩
end

/-! ### what a loop walks -/
inductive Src where
  | fx (xs : List MV)
  | lv (n : Nat)
def nxt : Src → Nat → MH → Option (Option MV)
  | .fx xs, i, _ => some xs[i]?
  | .lv n, i, m => match m[n]? with
    | some (.lst ys) => some ys[i]?
    | _ => none
def ItJ (K : PySem.W.Frag) (cn : Cn) (J : It) (r : Rho) (H : Hp) (nx : Nat → MH → Option (Option MV)) : Prop := ∀ r' m' H' i, ExtV r H r' H' → HR K cn r' m' H' →
  match nx i m' with
  | some (some a) => J.go i H' ∧ ∀ x H2, J.yld i H' x H2 → Ext r' H' r' H2 ∧ HR K cn r' m' H2 ∧ RV K cn r' H2 a x
  | some none => J.stop i H'
  | none => True
def PostI (K : PySem.W.Frag) (cn : Cn) (r : Rho) (H : Hp) (R : It → Hp → Prop) (sr : Src) (m : MH) : Prop := ∀ r' H' J, Ext r H r' H' → HR K cn r' m H' → ItJ K cn J r' H' (nxt sr) → R J H'
def LI (K : PySem.W.Frag) (cn : Cn) (W : WX) (f : ME → MM Src) : TI := fun s H R => ∃ (r : Rho) (m : MH) (e : ME), SR K cn r H e s ∧ HR K cn r m H ∧ Wp (f e m) (PostI K cn r H R) (PostX K cn W s r H)
abbrev JI (X : Cx) (cn : Cn) (W : WX) (tg iter : Expr) (f : ME → MM Src) : Prop := PI X tg iter (LI X.K cn W f)
theorem pi_imp {X : Cx} {tg e : Expr} {t t' : TI} (h : PI X tg e t) (i : ∀ s H Q, t' s H Q → t s H Q) : PI X tg e t' := ⟨fun pins s σ H Q I q => h.run pins s σ H Q I (i _ _ _ q)⟩
theorem itj_fx {K : PySem.W.Frag} {cn : Cn} {J : It} {r : Rho} {H : Hp} {xs : List MV} (h : ∀ r' m' H', ExtV r H r' H' → HR K cn r' m' H' → (∀ i a, xs[i]? = some a → J.go i H' ∧ ∀ x H2, J.yld i H' x H2 → Ext r' H' r' H2 ∧ HR K cn r' m' H2 ∧ RV K cn r' H2 a x) ∧ ∀ i, xs.length ≤ i → J.stop i H') : ItJ K cn J r H (nxt (.fx xs)) := by
  intro r' m' H' i x hr
  obtain ⟨h1, h2⟩ := h r' m' H' x hr
  cases q : xs[i]? with
  | none => simp only [nxt, q]; exact h2 i (List.getElem?_eq_none_iff.mp q)
  | some a => simp only [nxt, q]; exact h1 i a q
section
variable {K : PySem.W.Frag} {cn : Cn} {r : Rho} {m : MH} {H : Hp} {a : Addr} {ms : List MV} {vs : List V}
/-- a tuple -/
theorem itj_itt (hq : SqT K H a vs) (t : RVs K cn r H ms vs) : ItJ K cn (Itt K a) r H (nxt (.fx ms)) := by
  refine itj_fx fun r' m' H' x hr => ⟨fun i b e => ?_, fun i hi => ⟨vs, x.sqT hq, by rw [← t.length]; exact hi⟩⟩
  obtain ⟨v, h1, h2⟩ := (t.extV x).get e
  refine ⟨⟨vs, v, x.sqT hq, h1⟩, fun y H2 ⟨z, k⟩ => ?_⟩
  subst z
  have := k vs (x.sqT hq)
  rw [h1] at this
  cases this
  exact ⟨.refl, hr, h2⟩
theorem frz_ext {r' : Rho} {H' : Hp} (x : ExtV r H r' H') (h : ∃ o, H a = some (.frz o (.lst vs))) : ∃ o, H' a = some (.frz o (.lst vs)) := let ⟨o, h⟩ := h; ⟨o, x.frzs _ _ _ h⟩
/-- a list held for good -/
theorem itj_itl (hq : ∃ o, H a = some (.frz o (.lst vs))) (t : RVs K cn r H ms vs) : ItJ K cn (Itl K a) r H (nxt (.fx ms)) := by
  refine itj_fx fun r' m' H' x hr => ⟨fun i b e => ?_, fun i hi => ⟨vs, con_sq (frz_ext x hq), by rw [← t.length]; exact hi⟩⟩
  obtain ⟨v, h1, h2⟩ := (t.extV x).get e
  refine ⟨⟨vs, v, con_sq (frz_ext x hq), h1⟩, fun y H2 ⟨z, k⟩ => ?_⟩
  subst z
  have := k vs (con_sq (frz_ext x hq))
  rw [h1] at this
  cases this
  exact ⟨.refl, hr, h2⟩
/-- a list, as it stands at each turn -/
theorem itj_lv {n : Nat} {d : Addr} (hn : r[n]? = some (a, d)) : ItJ K cn (Itl K a) r H (nxt (.lv n)) := by
  intro r' m' H' i x hr
  unfold nxt
  obtain ⟨o, h1, h2⟩ := hr.get (x.get hn)
  cases h2 with
  | lst h3 t =>
    rename_i ms vs
    simp only [h1]
    cases q : ms[i]? with
    | none => exact ⟨vs, SqL.of h3, by rw [← t.length]; exact List.getElem?_eq_none_iff.mp q⟩
    | some b =>
      obtain ⟨v, h4, h5⟩ := t.get q
      refine ⟨⟨vs, v, SqL.of h3, h4⟩, fun y H2 ⟨z, k⟩ => ?_⟩
      subst z
      have := k vs (SqL.of h3)
      rw [h4] at this
      cases this
      exact ⟨.refl, hr, h5⟩
  | dct _ _ => simp only [h1]
  | ins _ _ => simp only [h1]
  | ded _ => simp only [h1]
def enumL : Nat → List MV → List MV
  | _, [] => []
  | k, a :: r => .tup [.int (k : Nat), a] :: enumL (k + 1) r
theorem enumL_length : ∀ {k : Nat} {xs : List MV}, (enumL k xs).length = xs.length
  | _, [] => rfl
  | k, a :: r => by rw [enumL, List.length_cons, List.length_cons, enumL_length]
theorem enumL_get : ∀ {k i : Nat} {xs : List MV} {b : MV}, (enumL k xs)[i]? = some b → ∃ a, xs[i]? = some a ∧ b = .tup [.int ((k + i : Nat) : Int), a]
  | _, _, [], _, e => by simp [enumL] at e
  | k, 0, a :: r, b, e => by simp [enumL] at e; exact ⟨a, by simp, e.symm⟩
  | k, i + 1, a :: r, b, e => by
    rw [enumL, List.getElem?_cons_succ] at e
    obtain ⟨c, h1, h2⟩ := enumL_get e
    refine ⟨c, by simpa using h1, ?_⟩
    rw [h2, show k + (i + 1) = k + 1 + i by omega]
theorem pair_new {r' : Rho} {H' : Hp} {m' : MH} (hr : HR K cn r' m' H') {T : Addr} (hT : H' T = none) {i : Nat} {b : MV} {v : V} (hv : RV K cn r' H' b v) :
    Ext r' H' r' (upd H' T (.tup [.int (i : Nat), v])) ∧ HR K cn r' m' (upd H' T (.tup [.int (i : Nat), v])) ∧ RV K cn r' (upd H' T (.tup [.int (i : Nat), v])) (.tup [.int (i : Nat), b]) (.ref T) :=
  ⟨ext_tup hT, hr.tup hT, .tup (SqT.of upd_same) (.cons (.int _) (.cons (hv.ext (ext_tup hT)) .nil))⟩
theorem itj_iteT (hq : SqT K H a vs) (t : RVs K cn r H ms vs) : ItJ K cn (IteT K a) r H (nxt (.fx (enumL 0 ms))) := by
  refine itj_fx fun r' m' H' x hr => ⟨fun i b e => ?_, fun i hi => ⟨vs, x.sqT hq, by rw [← t.length, ← enumL_length (k := 0)]; exact hi⟩⟩
  obtain ⟨c, e1, rfl⟩ := enumL_get e
  rw [Nat.zero_add]
  obtain ⟨v, h1, h2⟩ := (t.extV x).get e1
  refine ⟨⟨vs, v, x.sqT hq, h1⟩, fun y H2 ⟨T, w, z1, z2, z3, k⟩ => ?_⟩
  subst z1 z3
  have := k vs (x.sqT hq)
  rw [h1] at this
  cases this
  exact pair_new hr z2 h2
theorem itj_ite (hq : ∃ o, H a = some (.frz o (.lst vs))) (t : RVs K cn r H ms vs) : ItJ K cn (Ite K a) r H (nxt (.fx (enumL 0 ms))) := by
  refine itj_fx fun r' m' H' x hr => ⟨fun i b e => ?_, fun i hi => ⟨vs, con_sq (frz_ext x hq), by rw [← t.length, ← enumL_length (k := 0)]; exact hi⟩⟩
  obtain ⟨c, e1, rfl⟩ := enumL_get e
  rw [Nat.zero_add]
  obtain ⟨v, h1, h2⟩ := (t.extV x).get e1
  refine ⟨⟨vs, v, con_sq (frz_ext x hq), h1⟩, fun y H2 ⟨T, w, z1, z2, z3, k⟩ => ?_⟩
  subst z1 z3
  have := k vs (con_sq (frz_ext x hq))
  rw [h1] at this
  cases this
  exact pair_new hr z2 h2
end
/-- the range's numbers -/
def rngL (lo hi : Int) : List MV := (List.range (hi - lo).toNat).map fun k => .int (lo + (k : Nat))
theorem itj_itr {K : PySem.W.Frag} {cn : Cn} {r : Rho} {H : Hp} {lo hi : Int} : ItJ K cn (Itr lo (hi - lo).toNat) r H (nxt (.fx (rngL lo hi))) := by
  refine itj_fx fun r' m' H' x hr => ⟨fun i b e => ?_, fun i h => by
    have h' : (hi - lo).toNat ≤ i := by simpa [rngL] using h
    exact h'⟩
  unfold rngL at e
  rw [List.getElem?_map] at e
  obtain ⟨k, e1, rfl⟩ := Option.map_eq_some_iff.mp e
  obtain ⟨h1, h2⟩ := List.getElem?_eq_some_iff.mp e1
  have h1' : i < (hi - lo).toNat := by rw [List.length_range] at h1; exact h1
  rw [List.getElem_range] at h2
  subst h2
  refine ⟨h1', fun y H2 ⟨z1, z2⟩ => ?_⟩
  subst z1 z2
  exact ⟨.refl, hr, .int _⟩
def signsL (z : Str) : List MV := z.cps.toList.map fun c => .str ⟨#[c]⟩
theorem itj_its {K : PySem.W.Frag} {cn : Cn} {r : Rho} {H : Hp} {z : Str} : ItJ K cn (Its z) r H (nxt (.fx (signsL z))) := by
  refine itj_fx fun r' m' H' x hr => ⟨fun i b e => ?_, fun i h => by
    have h' : z.cps.size ≤ i := by simpa [signsL] using h
    exact h'⟩
  unfold signsL at e
  rw [List.getElem?_map] at e
  obtain ⟨k, e1, rfl⟩ := Option.map_eq_some_iff.mp e
  have e2 : z.cps[i]? = some k := by simpa using e1
  refine ⟨by exact (Array.getElem?_eq_some_iff.mp e2).1, fun y H2 ⟨z1, c, z2, z3⟩ => ?_⟩
  rw [e2] at z2
  cases z2
  subst z1 z3
  exact ⟨.refl, hr, .str _⟩
section
variable {X : Cx} {cn : Cn} {W : WX} {pos p : Pos} {a b tg : Expr} {f g : EM}
def srcSeq (a : MV) : MM Src := fun m => match a with
  | .tup xs => .ok (.fx xs) m
  | .con xs => .ok (.fx xs) m
  | .ref n => (match m[n]? with
    | some (.lst _) => .ok (.lv n) m
    | _ => .bad)
  | _ => .bad
def iSeqM (f : EM) : ME → MM Src := fun e => do srcSeq (← f e)
theorem i_seq (h : JE X cn W a f) : JI X cn W tg a (iSeqM f) := by
  refine pi_imp (pi_seq h) fun s H R ⟨r, m, e, hs, hr, w⟩ => ⟨r, m, e, hs, hr, w.bind.mono (fun y m1 w1 r1 H1 v x1 hr1 hv => ?_) fun _ _ q => q⟩
  unfold srcSeq at w1
  cases hv with
  | tup hq t => exact ⟨_, rfl, .inr ⟨⟨_, hq⟩, w1 r1 H1 _ x1 hr1 (itj_itt hq t)⟩⟩
  | con hq t => exact ⟨_, rfl, .inl ⟨⟨_, con_sq hq⟩, w1 r1 H1 _ x1 hr1 (itj_itl hq t)⟩⟩
  | ref hk =>
    obtain ⟨o, h2, h3⟩ := hr1.get hk
    simp only [h2] at w1
    cases h3 with
    | lst l1 t1 => exact ⟨_, rfl, .inl ⟨⟨_, SqL.of l1⟩, w1 r1 H1 _ x1 hr1 (itj_lv hk)⟩⟩
    | dct _ _ => exact w1.elim
    | ins _ _ => exact w1.elim
    | ded _ => exact w1.elim
  | _ => exact w1.elim
/-- enumerate, of a tuple or a list that is not written meanwhile -/
def srcEnum (a : MV) : MM Src := fun m => match a with
  | .tup xs => .ok (.fx (enumL 0 xs)) m
  | .con xs => .ok (.fx (enumL 0 xs)) m
  | _ => .bad
def iEnumM (f : EM) : ME → MM Src := fun e => do srcEnum (← f e)
theorem one_arg (h : JE X cn W a f) (hs : starEach [a] X.env = [(false, eval a X.env)]) : PA X [a] (fun s H Q => LE X.K cn W f s H fun v H' => Q [v] H') := pa_imp (pa_cons h pa_nil (hs.trans (by rw [show starEach [] X.env = [] from rfl]))) fun s H Q w => w
theorem i_enum {tpos : Pos} {elts : List Expr} {kk : Nat} (h : JE X cn W a f) (hm : X.mg "enumerate" = none) (hg : Gl X "enumerate" := by rfl) (hs : starEach [a] X.env = [(false, eval a X.env)] := by rfl) : JI X cn W (.Tuple elts kk tpos) (.Call (.Name "enumerate" p) [a] [] pos) (iEnumM f) := by
  refine pi_imp (pi_enumS hg hm (one_arg h hs) hs) fun s H R ⟨r, m, e, hs, hr, w⟩ => ⟨r, m, e, hs, hr, w.bind.mono (fun y m1 w1 r1 H1 v x1 hr1 hv => ?_) fun _ _ q => q⟩
  unfold srcEnum at w1
  cases hv with
  | tup hq t => exact ⟨_, rfl, .inr ⟨⟨_, hq⟩, w1 r1 H1 _ x1 hr1 (itj_iteT hq t)⟩⟩
  | con hq t => exact ⟨_, rfl, .inl ⟨⟨_, con_sq hq⟩, w1 r1 H1 _ x1 hr1 (itj_ite hq t)⟩⟩
  | _ => exact w1.elim
def iRange1 (f : EM) : ME → MM Src := fun e => do
  match ← f e with
  | .int j => if -(2 ^ 62) ≤ j ∧ j < 2 ^ 62 then pure (.fx (rngL 0 j)) else MM.fail
  | _ => MM.fail
theorem i_range1 (h : JE X cn W a f) (hm : X.mg "range" = none) (hg : Gl X "range" := by rfl) (hs : starEach [a] X.env = [(false, eval a X.env)] := by rfl) : JI X cn W tg (.Call (.Name "range" p) [a] [] pos) (iRange1 f) := by
  refine pi_imp (pi_range1 hg hm (one_arg h hs) hs) fun s H R ⟨r, m, e, hs, hr, w⟩ => ⟨r, m, e, hs, hr, w.bind.mono (fun y m1 w1 r1 H1 v x1 hr1 hv => ?_) fun _ _ q => q⟩
  cases hv with
  | int j =>
    have w2 : Wp ((if -(2 ^ 62) ≤ j ∧ j < 2 ^ 62 then pure (.fx (rngL 0 j)) else MM.fail : MM Src) m1) (PostI X.K cn r H R) (PostX X.K cn W s r H) := w1
    by_cases hz : -(2 ^ 62) ≤ j ∧ j < 2 ^ 62
    · rw [if_pos hz] at w2
      refine ⟨j, rfl, hz.1, hz.2, w2 r1 H1 _ x1 hr1 ?_⟩
      have := itj_itr (K := X.K) (cn := cn) (r := r1) (H := H1) (lo := 0) (hi := j)
      rw [Int.sub_zero] at this
      exact this
    · rw [if_neg hz] at w2
      exact w2.elim
  | _ => exact w1.elim
def iRange2 (f g : EM) : ME → MM Src := fun e => do
  let a ← f e
  let b ← g e
  match a, b with
  | .int i, .int j => if -(2 ^ 62) ≤ i ∧ i < 2 ^ 62 ∧ -(2 ^ 62) ≤ j ∧ j < 2 ^ 62 then pure (.fx (rngL i j)) else MM.fail
  | _, _ => MM.fail
theorem i_range2 (h : JE X cn W a f) (h' : JE X cn W b g) (hm : X.mg "range" = none) (hg : Gl X "range" := by rfl) (hs : starEach [a, b] X.env = [(false, eval a X.env), (false, eval b X.env)] := by rfl) (hs2 : starEach [b] X.env = [(false, eval b X.env)] := by rfl) : JI X cn W tg (.Call (.Name "range" p) [a, b] [] pos) (iRange2 f g) := by
  refine pi_imp (pi_range2 hg hm (pa_cons h (pa_cons h' pa_nil (hs2.trans (by rw [show starEach [] X.env = [] from rfl]))) (by rw [hs, hs2])) hs hs2) fun s H R ⟨r, m, e, hs, hr, w⟩ => ⟨r, m, e, hs, hr, w.bind.mono (fun y m1 w1 r1 H1 v x1 hr1 hv => ?_) fun _ _ q => q⟩
  refine ⟨r1, m1, e, hs.ext x1, hr1, w1.bind.mono (fun z m2 w2 r2 H2 v2 x2 hr2 hv2 => ?_) fun _ _ q => q.ext x1⟩
  cases hv with
  | int i =>
    cases hv2 with
    | int j =>
      have w3 : Wp ((if -(2 ^ 62) ≤ i ∧ i < 2 ^ 62 ∧ -(2 ^ 62) ≤ j ∧ j < 2 ^ 62 then pure (.fx (rngL i j)) else MM.fail : MM Src) m2) (PostI X.K cn r H R) (PostX X.K cn W s r H) := w2
      by_cases hz : -(2 ^ 62) ≤ i ∧ i < 2 ^ 62 ∧ -(2 ^ 62) ≤ j ∧ j < 2 ^ 62
      · rw [if_pos hz] at w3
        exact ⟨i, j, rfl, hz, w3 r2 H2 _ (x1.trans x2) hr2 itj_itr⟩
      · rw [if_neg hz] at w3
        exact w3.elim
    | _ => exact w2.elim
  | _ => exact (show False from w2).elim
def iStrM (f : EM) : ME → MM Src := fun e => do
  match ← f e with
  | .str z => pure (.fx (signsL z))
  | _ => MM.fail
theorem i_str (h : JE X cn W a f) : JI X cn W tg a (iStrM f) := by
  refine pi_imp (pi_str h) fun s H R ⟨r, m, e, hs, hr, w⟩ => ⟨r, m, e, hs, hr, w.bind.mono (fun y m1 w1 r1 H1 v x1 hr1 hv => ?_) fun _ _ q => q⟩
  cases hv with
  | str z => exact ⟨z, rfl, w1 r1 H1 _ x1 hr1 itj_its⟩
  | _ => exact w1.elim
end
end Mi
end

section
set_option Elab.async false
set_option linter.all false
set_option maxRecDepth 100000
set_option maxHeartbeats 2000000
namespace Mi
open PySem PySem.Spec PyProof.Rows L2

/-! ### for -/
def forG (nx : Nat → MH → Option (Option MV)) (g : GM) (body : SM) : Nat → Nat → SM
  | fuel, i => fun e m => match nx i m with
    | none => .bad
    | some none => .nx e m
    | some (some a) => (match fuel with
      | 0 => .bad
      | k + 1 => (match g a e with
        | none => .bad
        | some e1 => (match body e1 m with
          | .nx e2 m2 => forG nx g body k (i + 1) e2 m2
          | .ct e2 m2 => forG nx g body k (i + 1) e2 m2
          | .bk e2 m2 => .nx e2 m2
          | o => o)))
def forL (g : GM) (body : SM) : List MV → SM
  | [] => fun e m => .nx e m
  | a :: xs => fun e m => match g a e with
    | none => .bad
    | some e1 => (match body e1 m with
      | .nx e2 m2 => forL g body xs e2 m2
      | .ct e2 m2 => forL g body xs e2 m2
      | .bk e2 m2 => .nx e2 m2
      | o => o)
theorem forG_fx {g : GM} {body : SM} {xs : List MV} : ∀ (k i : Nat) (e : ME) (m : MH), k + i = xs.length → forG (nxt (.fx xs)) g body k i e m = forL g body (xs.drop i) e m
  | 0, i, e, m, h => by
    have h1 : xs[i]? = none := List.getElem?_eq_none (by omega)
    have h2 : xs.drop i = [] := List.drop_eq_nil_of_le (by omega)
    unfold forG
    simp only [nxt, h1, h2, forL]
  | k + 1, i, e, m, h => by
    have hi : i < xs.length := by omega
    have h1 : xs[i]? = some xs[i] := List.getElem?_eq_getElem hi
    have h2 : xs.drop i = xs[i] :: xs.drop (i + 1) := List.drop_eq_getElem_cons hi
    unfold forG
    simp only [nxt, h1, h2, forL]
    cases g xs[i] e with
    | none => rfl
    | some e1 =>
      simp only
      cases body e1 m with
      | nx e2 m2 => exact forG_fx k (i + 1) e2 m2 (by omega)
      | ct e2 m2 => exact forG_fx k (i + 1) e2 m2 (by omega)
      | _ => rfl
def lenS (m : MH) : Src → Nat
  | .fx xs => xs.length
  | .lv n => (match m[n]? with
    | some (.lst xs) => xs.length
    | _ => 0)
def forS (sr : Src) (g : GM) (body : SM) : SM := match sr with
  | .fx xs => forL g body xs
  | .lv n => fun e m => forG (nxt (.lv n)) g body (lenS m (.lv n)) 0 e m
theorem forS_G {sr : Src} {g : GM} {body : SM} {e : ME} {m : MH} : forS sr g body e m = forG (nxt sr) g body (lenS m sr) 0 e m := by
  cases sr with
  | fx xs =>
    have := (forG_fx (g := g) (body := body) (xs := xs) xs.length 0 e m (by omega))
    rw [List.drop_zero] at this
    exact this.symm
  | lv n => rfl
def sFor (src : ME → MM Src) (g : GM) (body : SM) : SM := fun e m => match src e m with
  | .ok sr m1 => forS sr g body e m1
  | .exc x m1 => .exc x e m1
  | .bad => .bad
section
variable {X : Cx} {cn : Cn} {W : WX} {pos : Pos} {a tg iter : Expr} {f : EM} {body : List Stmt} {src : ME → MM Src} {g : GM} {ts : List Nat} {hb : SM}
theorem s_for (hp : PassesOwn (model X.prog X.w) X.A X.env X.xe) (hc : X.calm = true) (hi : JI X cn W tg iter src) (hg : JG X cn ts tg g) (hB : JSs X cn W body hb) (hs : ∀ x, foldedSetIterable iter X.env x = pure x := by intro _; rfl) : JS X cn W (.For tg iter body [] pos) (sFor src g hb) := by
  refine ps_imp (ps_for hp hc hi hg hB hs) fun D s H ⟨r, m, e, hs, hr, p⟩ => ⟨r, m, e, hs, hr, ?_⟩
  unfold sFor at p
  cases q : src e m with
  | exc x m1 => rw [q] at p; exact fun r' H' cls d x hr he => p r' H' s cls d x hr (hs.ext x) he
  | bad => rw [q] at p; exact p
  | ok sr m1 =>
    rw [q] at p
    simp only [forS_G] at p
    intro r1 H1 J x1 hr1 hJ
    have p1 := PostS.ext p x1
    refine ⟨fun i k s' H' => ∃ r' m' e', Ext r1 H1 r' H' ∧ SR X.K cn r' H' e' s' ∧ HR X.K cn r' m' H' ∧ PostS X.K cn W D r' H' (forG (nxt sr) g hb k i e' m'), ⟨_, r1, m1, e, .refl, hs.ext x1, hr1, p1⟩, ?_⟩
    rintro i k s2 H2 ⟨r2, m2, e2, x2, hs2, hr2, p2⟩
    have hj := hJ r2 m2 H2 i x2.v hr2
    unfold forG at p2
    cases q2 : nxt sr i m2 with
    | none => simp only [q2] at p2; exact p2.elim
    | some o =>
      cases o with
      | none =>
        simp only [q2] at p2 hj
        exact .inl ⟨hj, p2 r2 H2 s2 .refl hr2 hs2⟩
      | some a =>
        simp only [q2] at p2 hj
        cases k with
        | zero => exact p2.elim
        | succ k =>
          simp only at p2
          refine .inr ⟨hj.1, fun s' H' => ∃ r' m' e', Ext r1 H1 r' H' ∧ SR X.K cn r' H' e' s' ∧ HR X.K cn r' m' H' ∧ PostS X.K cn W D r' H' (forG (nxt sr) g hb k (i + 1) e' m'), fun s' H' h => ⟨k, Nat.lt_succ_self _, h⟩, fun y H3 hy => ?_⟩
          obtain ⟨x3, hr3, ry⟩ := hj.2 y H3 hy
          cases q3 : g a e2 with
          | none => simp only [q3] at p2; exact p2.elim
          | some e3 =>
            simp only [q3] at p2
            refine ⟨r2, m2, e2, e3, a, hs2.ext x3, hr3, ry, q3, fun r4 H4 s4 x4 hr4 hs4 _ => ⟨r4, m2, e3, hs4, hr4, ?_⟩⟩
            have p3 := PostS.ext p2 (x3.trans x4)
            have xx := x2.trans (x3.trans x4)
            cases q5 : hb e3 m2 with
            | nx e5 m5 => simp only [q5] at p3; exact fun r' H' s' y hr' hs' => ⟨r', m5, e5, xx.trans y, hs', hr', PostS.ext p3 y⟩
            | ct e5 m5 => simp only [q5] at p3; exact fun r' H' s' y hr' hs' => ⟨r', m5, e5, xx.trans y, hs', hr', PostS.ext p3 y⟩
            | bk e5 m5 => simp only [q5] at p3; exact p3
            | rt v m5 => simp only [q5] at p3; exact p3
            | exc v e5 m5 => simp only [q5] at p3; exact p3
            | bad => simp only [q5] at p3; exact p3
def sBk : SM := fun e m => .bk e m
def sCt : SM := fun e m => .ct e m
theorem s_bk : JS X cn W (.Break pos) sBk := ps_imp ps_break fun D s H ⟨r, m, e, hs, hr, p⟩ => p r H s .refl hr hs
theorem s_ct : JS X cn W (.Continue pos) sCt := ps_imp ps_continue fun D s H ⟨r, m, e, hs, hr, p⟩ => p r H s .refl hr hs
/-! ### while -/
def whileG (t : ME → MM Bool) (body : SM) : Nat → SM
  | 0 => fun _ _ => .bad
  | k + 1 => fun e m => match t e m with
    | .ok true m1 => (match body e m1 with
      | .nx e2 m2 => whileG t body k e2 m2
      | .ct e2 m2 => whileG t body k e2 m2
      | .bk e2 m2 => .nx e2 m2
      | o => o)
    | .ok false m1 => .nx e m1
    | .exc x m1 => .exc x e m1
    | .bad => .bad
theorem s_while {tf : ME → MM Bool} (n : Nat) (hp : PassesOwn (model X.prog X.w) X.A X.env X.xe) (hc : JT X cn W a tf) (hB : JSs X cn W body hb) : JS X cn W (.While a body [] pos) (whileG tf hb n) := by
  refine ps_imp (ps_while hp hc hB) fun D s H ⟨r, m, e, hs, hr, p⟩ => ?_
  refine ⟨fun k s' H' => ∃ r' m' e', Ext r H r' H' ∧ SR X.K cn r' H' e' s' ∧ HR X.K cn r' m' H' ∧ PostS X.K cn W D r' H' (whileG tf hb k e' m'), ⟨n, r, m, e, .refl, hs, hr, p⟩, ?_⟩
  rintro k s2 H2 ⟨r2, m2, e2, x2, hs2, hr2, p2⟩
  refine ⟨r2, m2, e2, hs2, hr2, ?_⟩
  cases k with
  | zero => exact p2.elim
  | succ k =>
    unfold whileG at p2
    cases q : tf e2 m2 with
    | exc x m1 => rw [q] at p2; exact fun r' H' cls d x hr he => p2 r' H' s2 cls d x hr (hs2.ext x) he
    | bad => rw [q] at p2; exact p2
    | ok b m1 =>
      intro r3 H3 x3 hr3
      cases b with
      | false =>
        rw [if_neg Bool.false_ne_true]
        rw [q] at p2
        exact p2 r3 H3 s2 x3 hr3 (hs2.ext x3)
      | true =>
        rw [if_pos rfl]
        rw [q] at p2
        simp only at p2
        refine ⟨fun s' H' => ∃ r' m' e', Ext r H r' H' ∧ SR X.K cn r' H' e' s' ∧ HR X.K cn r' m' H' ∧ PostS X.K cn W D r' H' (whileG tf hb k e' m'), fun s' H' h => ⟨k, Nat.lt_succ_self _, h⟩, r3, m1, e2, hs2.ext x3, hr3, ?_⟩
        have p3 := PostS.ext p2 x3
        have xx := x2.trans x3
        cases q5 : hb e2 m1 with
        | nx e5 m5 => simp only [q5] at p3; exact fun r' H' s' y hr' hs' => ⟨r', m5, e5, xx.trans y, hs', hr', PostS.ext p3 y⟩
        | ct e5 m5 => simp only [q5] at p3; exact fun r' H' s' y hr' hs' => ⟨r', m5, e5, xx.trans y, hs', hr', PostS.ext p3 y⟩
        | bk e5 m5 => simp only [q5] at p3; exact p3
        | rt v m5 => simp only [q5] at p3; exact p3
        | exc v e5 m5 => simp only [q5] at p3; exact p3
        | bad => simp only [q5] at p3; exact p3
end

/-! ### comprehensions: what a walk collects -/
def collG (nx : Nat → MH → Option (Option MV)) (turn : MV → MM (List MV)) : Nat → Nat → MM (List MV)
  | fuel, i => fun m => match nx i m with
    | none => .bad
    | some none => .ok [] m
    | some (some a) => (match fuel with
      | 0 => .bad
      | k + 1 => (match turn a m with
        | .ok ys m2 => (match collG nx turn k (i + 1) m2 with
          | .ok zs m3 => .ok (ys ++ zs) m3
          | _ => .bad)
        | _ => .bad))
def collL (turn : MV → MM (List MV)) : List MV → MM (List MV)
  | [] => fun m => .ok [] m
  | a :: xs => fun m => match turn a m with
    | .ok ys m2 => (match collL turn xs m2 with
      | .ok zs m3 => .ok (ys ++ zs) m3
      | _ => .bad)
    | _ => .bad
theorem collG_fx {turn : MV → MM (List MV)} {xs : List MV} : ∀ (k i : Nat) (m : MH), k + i = xs.length → collG (nxt (.fx xs)) turn k i m = collL turn (xs.drop i) m
  | 0, i, m, h => by
    have h1 : xs[i]? = none := List.getElem?_eq_none (by omega)
    have h2 : xs.drop i = [] := List.drop_eq_nil_of_le (by omega)
    unfold collG
    simp only [nxt, h1, h2, collL]
  | k + 1, i, m, h => by
    have hi : i < xs.length := by omega
    have h1 : xs[i]? = some xs[i] := List.getElem?_eq_getElem hi
    have h2 : xs.drop i = xs[i] :: xs.drop (i + 1) := List.drop_eq_getElem_cons hi
    unfold collG
    simp only [nxt, h1, h2, collL]
    cases turn xs[i] m with
    | ok ys m2 =>
      simp only
      rw [collG_fx k (i + 1) m2 (by omega)]
    | _ => rfl
def collS (sr : Src) (turn : MV → MM (List MV)) : MM (List MV) := match sr with
  | .fx xs => collL turn xs
  | .lv n => fun m => collG (nxt (.lv n)) turn (lenS m (.lv n)) 0 m
theorem collS_G {sr : Src} {turn : MV → MM (List MV)} {m : MH} : collS sr turn m = collG (nxt sr) turn (lenS m sr) 0 m := by
  cases sr with
  | fx xs =>
    have := (collG_fx (turn := turn) (xs := xs) xs.length 0 m (by omega))
    rw [List.drop_zero] at this
    exact this.symm
  | lv n => rfl
/-- one turn -/
def turnC (g : GM) (t : ME → MM Bool) (f : EM) (e0 : ME) (a : MV) : MM (List MV) := fun m => match g a e0 with
  | none => .bad
  | some e1 => (match t e1 m with
    | .ok true m1 => (match f e1 m1 with
      | .ok y m2 => .ok [y] m2
      | _ => .bad)
    | .ok false m1 => .ok [] m1
    | _ => .bad)
def wipeM (e : ME) : List Nat → ME
  | [] => e
  | v :: vs => (wipeM e vs).set v none
def eComp (src : ME → MM Src) (vs : List Nat) (turn : ME → MV → MM (List MV)) : EM := fun e m => match src e m with
  | .ok sr m1 => (match collS sr (turn (wipeM e vs)) m1 with
    | .ok ys m2 => if ys.length ≤ sizeLine then .ok (.con ys) m2 else .bad
    | _ => .bad)
  | .exc x m1 => .exc x m1
  | .bad => .bad
/-- .. of two clauses -/
def turnC2 (g : GM) (t : ME → MM Bool) (src : ME → MM Src) (vs : List Nat) (turn : ME → MV → MM (List MV)) (e0 : ME) (a : MV) : MM (List MV) := fun m => match g a e0 with
  | none => .bad
  | some e1 => (match t e1 m with
    | .ok true m1 => (match src e1 m1 with
      | .ok sr m2 => collS sr (turn (wipeM e1 vs)) m2
      | _ => .bad)
    | .ok false m1 => .ok [] m1
    | _ => .bad)
section
variable {K : PySem.W.Frag} {cn : Cn} {r : Rho} {m : MH} {H : Hp} {e : ME} {s : L2.St} {D : Addr}
theorem SR.extV {r' : Rho} {H' : Hp} (h : SR K cn r H e s) (x : ExtV r H r' H') : SR K cn r' H' e s := ⟨h.1, fun i m q => let ⟨v, h1, h2⟩ := h.2 i m q; ⟨v, h1, h2.extV x⟩⟩
theorem SR.wiped (h : SR K cn r H e s) : ∀ vs : List Nat, SR K cn r H (wipeM e vs) (wipe s vs)
  | [] => h
  | v :: vs => by
    have ih := SR.wiped h vs
    unfold wipeM wipe
    refine ⟨by rw [List.length_set, List.length_set]; exact ih.1, fun j n q => ?_⟩
    by_cases hj : v = j
    · subst hj
      by_cases hv : v < (wipeM e vs).length
      · rw [List.getElem?_set_self hv] at q; cases q
      · rw [List.getElem?_eq_none (by simpa using hv)] at q; cases q
    · rw [List.getElem?_set_ne hj] at q ⊢
      exact ih.2 j n q
/-- an untracked list is written -/
theorem ext_side {r' : Rho} {H' : Hp} {o : HO} (x : Ext r H r' H') (h : H D = none) : Ext r H r' (upd H' D o) := by
  refine ⟨x.pre, fun b xs e => ?_, fun b o u e => ?_, fun b u e => ?_, fun b u e n => ?_⟩
  · rw [upd_ne (ne_of_none e h)]; exact x.tups b xs e
  · rw [upd_ne (ne_of_none e h)]; exact x.frzs b o u e
  · rw [upd_ne (ne_of_none e h)]; exact x.dom b u e
  · rw [upd_ne (ne_of_none e h)]; exact x.keep b u e n
theorem extV_side {vs us : List V} (hD : H D = some (.lst vs)) : ExtV r H r (upd H D (.lst us)) := by
  refine ⟨fun e => e, fun b xs e => ?_, fun b o u e => ?_⟩
  · rw [upd_ne (fun z => by rw [z, hD] at e; cases e)]; exact e
  · rw [upd_ne (fun z => by rw [z, hD] at e; cases e)]; exact e
theorem HR.side {vs us : List V} (h : HR K cn r m H) (hD : H D = some (.lst vs)) (n : ∀ p ∈ r, p.1 ≠ D) : HR K cn r m (upd H D (.lst us)) := by
  refine ⟨h.len, fun i o p e1 e2 => ?_, h.inj⟩
  have hne : p.1 ≠ D := n p (List.mem_of_getElem? e2)
  have x := extV_side (r := r) (us := us) hD
  have ho := h.at_ i o p e1 e2
  cases ho with
  | lst e t => exact .lst ((upd_ne hne).trans e) (t.extV x)
  | dct e t => exact .dct ((upd_ne hne).trans e) (t.extV x)
  | ins e t => exact .ins ((upd_ne hne).trans e) (t.extV x)
  | ded e => exact .ded ((upd_ne hne).trans e)
theorem ext_apart {r' : Rho} {H' : Hp} (x : Ext r H r' H') {o : HO} (hD : H D = some o) (n : ∀ p ∈ r, p.1 ≠ D) : H' D = some o ∧ ∀ p ∈ r', p.1 ≠ D := by
  refine ⟨x.keep D o hD n, fun p hp z => ?_⟩
  obtain ⟨t, e, f⟩ := x.pre
  rw [e] at hp
  rcases List.mem_append.mp hp with q | q
  · exact n p q z
  · have := f p q
    rw [z, hD] at this
    cases this
/-- the collecting goes on: acc at D so far, all of it to be zs behind -/
structure Coll (K : PySem.W.Frag) (cn : Cn) (D : Addr) (r0 : Rho) (H0 : Hp) (H : Hp) (tot : List MV) (rest : MH → Res (List MV)) (mz : MH) (r : Rho) (m : MH) (acc : List MV) (vs : List V) : Prop where
  ext : Ext r0 H0 r H
  hr : HR K cn r m H
  off : ∀ p ∈ r, p.1 ≠ D
  at_ : H D = some (.lst vs)
  rvs : RVs K cn r H acc vs
  go : ∃ zs, rest m = .ok zs mz ∧ acc ++ zs = tot
end
/-! ### the rules -/
def WN : WX := fun _ _ _ _ => False
def LTs (K : PySem.W.Frag) (cn : Cn) (W : WX) (f : ME → MM Bool) : TT := LT K cn W f
abbrev JTs (X : Cx) (cn : Cn) (W : WX) (es : List Expr) (f : ME → MM Bool) : Prop := PTs X es (LT X.K cn W f)
theorem pts_imp {X : Cx} {e : List Expr} {t t' : TT} (h : PTs X e t) (i : ∀ s H Q, t' s H Q → t s H Q) : PTs X e t' := ⟨fun pins s σ H Q I q => h.run pins s σ H Q I (i _ _ _ q)⟩
def tYesM : ME → MM Bool := fun _ => pure true
theorem ts_nil {X : Cx} {cn : Cn} {W : WX} : JTs X cn W [] tYesM := pts_imp pts_nil fun s H Q ⟨r, m, e, hs, hr, w⟩ => w r H .refl hr
theorem ts_one {X : Cx} {cn : Cn} {W : WX} {c : Expr} {f : ME → MM Bool} (h : JT X cn W c f) : JTs X cn W [c] f := pts_one h
section
variable {K : PySem.W.Frag} {cn : Cn} {D : Addr} {r0 : Rho} {H0 : Hp} {H : Hp} {tot : List MV} {mz : MH} {r : Rho} {m : MH} {acc : List MV} {vs : List V}
theorem Coll.step {rest rest' : MH → Res (List MV)} (c : Coll K cn D r0 H0 H tot rest mz r m acc vs) {r1 : Rho} {H1 : Hp} {m1 : MH} (x : Ext r H r1 H1) (hr : HR K cn r1 m1 H1) (g : ∃ zs, rest' m1 = .ok zs mz ∧ acc ++ zs = tot) : Coll K cn D r0 H0 H1 tot rest' mz r1 m1 acc vs :=
  let ⟨h1, h2⟩ := ext_apart x c.at_ c.off
  ⟨c.ext.trans x, hr, h2, h1, c.rvs.ext x, g⟩
theorem Coll.push {rest rest' : MH → Res (List MV)} (c : Coll K cn D r0 H0 H tot rest mz r m acc vs) (h0 : H0 D = none) {y : MV} {v : V} (hy : RV K cn r H y v) (g : ∃ zs, rest' m = .ok zs mz ∧ (acc ++ [y]) ++ zs = tot) : Coll K cn D r0 H0 (upd H D (.lst (vs ++ [v]))) tot rest' mz r m (acc ++ [y]) (vs ++ [v]) :=
  ⟨ext_side c.ext h0, c.hr.side c.at_ c.off, c.off, upd_same, (c.rvs.app (.one hy)).extV (extV_side c.at_), g⟩
/-- the end: the list is held for good -/
theorem Coll.fin {rest : MH → Res (List MV)} {Q : VK} (c : Coll K cn D r0 H0 H tot rest mz r m acc vs) (h0 : H0 D = none) (g : rest m = .ok [] m) (p : PostE K cn r0 H0 Q (.con tot) mz) : LkQ Q (.ref D) H := by
  obtain ⟨zs, g1, g2⟩ := c.go
  rw [g] at g1
  cases g1
  rw [List.append_nil] at g2
  subst g2
  refine ⟨D, _, rfl, c.at_, True.intro, fun od => ?_⟩
  have xv : ExtV r H r (upd H D (.frz od (.lst vs))) := by
    refine ⟨fun e => e, fun b xs e => ?_, fun b o u e => ?_⟩
    · rw [upd_ne (fun z => by rw [z, c.at_] at e; cases e)]; exact e
    · rw [upd_ne (fun z => by rw [z, c.at_] at e; cases e)]; exact e
  refine p r _ _ (ext_side c.ext h0) ⟨c.hr.len, fun i o p e1 e2 => ?_, c.hr.inj⟩ (.con ⟨od, upd_same⟩ (c.rvs.extV xv))
  have hne : p.1 ≠ D := c.off p (List.mem_of_getElem? e2)
  cases c.hr.at_ i o p e1 e2 with
  | lst e t => exact .lst ((upd_ne hne).trans e) (t.extV xv)
  | dct e t => exact .dct ((upd_ne hne).trans e) (t.extV xv)
  | ins e t => exact .ins ((upd_ne hne).trans e) (t.extV xv)
  | ded e => exact .ded ((upd_ne hne).trans e)
end
theorem wipe_twice {s : L2.St} {vs : List Nat} : wipe (wipe s vs) vs = wipe s vs := by
  refine wipe_same (ts := vs) ⟨wipe_length s vs, fun i hi => wipe_out hi⟩ fun i h => h
/-- a turn of a walk that collects: go with what it yields -/
theorem coll_turn {K : PySem.W.Frag} {cn : Cn} {J : It} {r1 : Rho} {H1 : Hp} {sr : Src} {turn : MV → MM (List MV)} (hJ : ItJ K cn J r1 H1 (nxt sr)) {mz : MH} {r : Rho} {m : MH} {zs : List MV} {i k : Nat} {H : Hp}
    (x : ExtV r1 H1 r H) (hr : HR K cn r m H) (g1 : collG (nxt sr) turn k i m = .ok zs mz) :
    (J.stop i H ∧ zs = [] ∧ mz = m) ∨ (∃ k', k = k' + 1 ∧ J.go i H ∧ ∃ a ys m2 zs', (∀ y H2, J.yld i H y H2 → Ext r H r H2 ∧ HR K cn r m H2 ∧ RV K cn r H2 a y) ∧ turn a m = .ok ys m2 ∧ collG (nxt sr) turn k' (i + 1) m2 = .ok zs' mz ∧ zs = ys ++ zs') := by
  have hj := hJ r m H i x hr
  cases k with
  | zero =>
    unfold collG at g1
    cases q : nxt sr i m with
    | none => simp only [q] at g1; cases g1
    | some o =>
      cases o with
      | none => simp only [q] at hj g1; cases g1; exact .inl ⟨hj, rfl, rfl⟩
      | some a => simp only [q] at g1; cases g1
  | succ k =>
    unfold collG at g1
    cases q : nxt sr i m with
    | none => simp only [q] at g1; cases g1
    | some o =>
      cases o with
      | none => simp only [q] at hj g1; cases g1; exact .inl ⟨hj, rfl, rfl⟩
      | some a =>
        simp only [q] at g1 hj
        cases q1 : turn a m with
        | ok ys m2 =>
          simp only [q1] at g1
          cases q2 : collG (nxt sr) turn k (i + 1) m2 with
          | ok zs' m3 => simp only [q2] at g1; cases g1; exact .inr ⟨k, rfl, hj.1, a, ys, m2, zs', hj.2, q1, q2, rfl⟩
          | exc _ _ => simp only [q2] at g1; cases g1
          | bad => simp only [q2] at g1; cases g1
        | exc _ _ => simp only [q1] at g1; cases g1
        | bad => simp only [q1] at g1; cases g1
theorem Coll.start {K : PySem.W.Frag} {cn : Cn} {D : Addr} {r1 : Rho} {H1 : Hp} {m1 : MH} {rest : MH → Res (List MV)} {ys : List MV} {mz : MH} (hr : HR K cn r1 m1 H1) (hD : H1 D = none) (g : rest m1 = .ok ys mz) : Coll K cn D r1 H1 (upd H1 D (.lst [])) ys rest mz r1 m1 [] [] :=
  ⟨ext_side .refl hD, hr.keep (.grow0 (upd_old hD)) (upd_old hD), fun p hp => let ⟨i, e⟩ := List.getElem?_of_mem hp; hr.fresh hD e, upd_same, .nil, ys, g, rfl⟩
theorem wipe_back {ts vs : List Nat} {s s' : L2.St} (h : Same ts (wipe s vs) s') (hv : ∀ i ∈ ts, i ∈ vs) : wipe s' vs = wipe s vs := by rw [wipe_same h hv, wipe_twice]
section
variable {X : Cx} {cn : Cn} {W : WX} {pos : Pos} {elt tg iter tg1 iter1 : Expr} {ifs ifs1 : List Expr} {scope : Scope} {own : List (Str × Nat)} {ts ts1 vs1 : List Nat} {src src1 : ME → MM Src} {g g1 : GM} {t t1 : ME → MM Bool} {f : EM}
/-- one clause: what tLc asks -/
theorem lc_reads {wi : TI} (hts : ∀ i ∈ ts, i ∈ own.map (·.2)) {s : L2.St} {H : Hp} {Q Q' : VK} (hQ : ∀ v H, LkQ Q v H → Q' v H) (hw : wi = LI X.K cn W src) (h : LE X.K cn W (eComp src (own.map (·.2)) (turnC g t f)) s H Q) :
    tLc wi (LG X.K cn ts g) (LT X.K cn WN t) (LE X.K cn WN f) (own.map (·.2)) s H Q' := by
  subst hw
  obtain ⟨r, m, e, hs, hr, w⟩ := h
  refine ⟨r, m, e, hs, hr, ?_⟩
  unfold eComp at w
  cases q : src e m with
  | exc x m1 => rw [q] at w; exact w
  | bad => rw [q] at w; exact w
  | ok sr m1 =>
    rw [q] at w
    simp only at w
    intro r1 H1 J x1 hr1 hJ D hD
    cases q1 : collS sr (turnC g t f (wipeM e (own.map (·.2)))) m1 with
    | exc _ _ => rw [q1] at w; exact w.elim
    | bad => rw [q1] at w; exact w.elim
    | ok ys mz =>
      rw [q1] at w
      simp only at w
      by_cases hz : ys.length ≤ sizeLine
      · rw [if_pos hz] at w
        have p1 : PostE X.K cn r1 H1 Q (.con ys) mz := PostE.ext w x1
        rw [collS_G] at q1
        have hs1 := (hs.ext x1).wiped (own.map (·.2))
        generalize hT : turnC g t f (wipeM e (own.map (·.2))) = turn at q1
        refine ⟨fun i k H' => ∃ r' m' acc vs, Coll X.K cn D r1 H1 H' ys (fun m => collG (nxt sr) turn k i m) mz r' m' acc vs, ⟨_, r1, m1, [], [], Coll.start hr1 hD q1⟩, ?_⟩
        rintro i k H2 ⟨r2, m2, acc, vs, c⟩
        obtain ⟨zs, g1, g2⟩ := c.go
        rcases coll_turn hJ c.ext.v c.hr g1 with ⟨st, e1, e2⟩ | ⟨k', rfl, go, a, ys', m3, zs', hy, h3, h4, h5⟩
        · subst e1 e2
          exact .inl ⟨st, hQ _ _ (c.fin hD g1 p1)⟩
        · refine .inr ⟨go, fun H' => ∃ r' m' acc vs, Coll X.K cn D r1 H1 H' ys (fun m => collG (nxt sr) turn k' (i + 1) m) mz r' m' acc vs, fun H' h => ⟨k', Nat.lt_succ_self _, h⟩, fun y H3 hyl => ?_⟩
          obtain ⟨x3, hr3, ry⟩ := hy y H3 hyl
          rw [← hT] at h3
          unfold turnC at h3
          have hs3 := (hs1.ext c.ext).ext x3
          cases q3 : g a (wipeM e (own.map (·.2))) with
          | none => rw [q3] at h3; cases h3
          | some e3 =>
            rw [q3] at h3
            simp only at h3
            refine ⟨r2, m2, _, e3, a, hs3, hr3, ry, q3, fun r4 H4 s4 x4 hr4 hs4 same => ⟨wipe_back same hts, r4, m2, e3, hs4, hr4, ?_⟩⟩
            have x34 := x3.trans x4
            cases q4 : t e3 m2 with
            | exc _ _ => rw [q4] at h3; cases h3
            | bad => rw [q4] at h3; cases h3
            | ok b m4 =>
              rw [q4] at h3
              cases b with
              | false =>
                simp only at h3
                cases h3
                intro r5 H5 x5 hr5
                rw [if_neg Bool.false_ne_true]
                exact ⟨r5, _, acc, vs, c.step (x34.trans x5) hr5 ⟨zs', h4, by rw [← g2, h5]; rfl⟩⟩
              | true =>
                simp only at h3
                intro r5 H5 x5 hr5
                rw [if_pos rfl]
                refine ⟨r5, m4, e3, hs4.ext x5, hr5, ?_⟩
                cases q5 : f e3 m4 with
                | exc _ _ => rw [q5] at h3; cases h3
                | bad => rw [q5] at h3; cases h3
                | ok z m5 =>
                  rw [q5] at h3
                  cases h3
                  intro r6 H6 v x6 hr6 hv
                  have xx := x34.trans (x5.trans x6)
                  have c2 := c.step (rest' := fun m => (match collG (nxt sr) turn k' (i + 1) m with | .ok zs m' => .ok (z :: zs) m' | _ => .bad)) xx hr6 ⟨z :: zs', by rw [h4], by rw [← g2, h5]; rfl⟩
                  have hl : vs.length < sizeLine := by
                    rw [← c.rvs.length]
                    have : acc.length + zs.length = ys.length := by rw [← g2, List.length_append]
                    have h6 : zs.length = zs'.length + 1 := by rw [h5]; simp
                    omega
                  exact ⟨vs, c2.at_, hl, r6, _, acc ++ [z], vs ++ [v], c2.push hD hv ⟨zs', h4, by rw [← g2, h5]; simp⟩⟩
      · rw [if_neg hz] at w; exact w.elim
theorem e_lc (hc : X.calm = true) (hN : X.N.Nodup) (hi : JI X cn W tg iter src) (ok : BlkOk X.N X.env.scope scope own)
    (hg : ∀ (s : Shared) (H : Hp) (C : Addr) (cl : List (Str × Addr)) (fp : List Addr), JG (X.blk s H scope (compEnvC scope cl C X.env) fp) cn ts tg g) (ht : ∀ (s : Shared) (H : Hp) (C : Addr) (cl : List (Str × Addr)) (fp : List Addr), JTs (X.blk s H scope (compEnvC scope cl C X.env) fp) cn WN ifs t)
    (he : ∀ (s : Shared) (H : Hp) (C : Addr) (cl : List (Str × Addr)) (fp : List Addr), JE (X.blk s H scope (compEnvC scope cl C X.env) fp) cn WN elt f) (hts : ∀ i ∈ ts, i ∈ own.map (·.2) := by decide) (hs : ∀ x, foldedSetIterable iter X.env x = pure x := by intro _; rfl) :
    JE X cn W (.ListComp elt [⟨tg, iter, ifs, 0⟩] scope pos) (eComp src (own.map (·.2)) (turnC g t f)) :=
  pe_imp (pe_lk (pe_lc hc hN hi ok hg ht he hs)) fun s H Q h => lc_reads hts (fun _ _ q => q) rfl h
/-- a statement's end: a thing is held for good -/
theorem ps_lk {st : Stmt} {tt : TS} (h : PS X st tt) : PS X st (fun D s H => tt { D with nx := fun s' H' => ∃ d u, H' d = some u ∧ Mut (some u) ∧ ∀ od, D.nx s' (upd H' d (.frz od u)) } s H) := ⟨fun pins s σ H D I q => by
  refine thn (h.run pins s σ H _ I q) fun fl s1 q1 => ?_
  cases fl with
  | next =>
    obtain ⟨σ1, H1, I1, d, u, e, mu, k⟩ := q1
    obtain ⟨od, I2⟩ := I1.lock e mu
    exact ⟨σ1, _, I2, k od⟩
  | brk => exact q1
  | cont => exact q1
  | ret v => exact q1⟩
theorem s_setLc {i : Nat} {y : Str} {py spos : Pos} (hc : X.calm = true) (hN : X.N.Nodup) (hy : X.N[i]? = some y) (hyl : X.env.scope.names.lookup y = some .local)
    (hsw : swapsWith (.ListComp elt [⟨tg, iter, ifs, 0⟩] scope pos) (some (.Name y py)) spos.line X.env = pure true) (hi : JI X cn W tg iter src) (ok : BlkOk X.N X.env.scope scope own)
    (hg : ∀ (s : Shared) (H : Hp) (C : Addr) (cl : List (Str × Addr)) (fp : List Addr), JG (X.blk s H scope (compEnvC scope cl C X.env) fp) cn ts tg g) (ht : ∀ (s : Shared) (H : Hp) (C : Addr) (cl : List (Str × Addr)) (fp : List Addr), JTs (X.blk s H scope (compEnvC scope cl C X.env) fp) cn WN ifs t)
    (he : ∀ (s : Shared) (H : Hp) (C : Addr) (cl : List (Str × Addr)) (fp : List Addr), JE (X.blk s H scope (compEnvC scope cl C X.env) fp) cn WN elt f) (hts : ∀ i ∈ ts, i ∈ own.map (·.2) := by decide) (hs : ∀ x, foldedSetIterable iter X.env x = pure x := by intro _; rfl) :
    JS X cn W (.Assign [.Name y py] (.ListComp elt [⟨tg, iter, ifs, 0⟩] scope pos) spos) (sSet i (eComp src (own.map (·.2)) (turnC g t f))) := by
  refine ps_imp (ps_lk (ps_setLc (wi := LI X.K cn W src) (g := LG X.K cn ts g) (tt := LT X.K cn WN t) (te := LE X.K cn WN f) hc hN hy hyl hsw hi ok hg ht he hs)) fun D s H ⟨r, m, e, hs, hr, p⟩ => ?_
  refine lc_reads (Q := fun v H' => D.nx (s.set i (some v)) H') hts (fun v H' ⟨d, u, _, h1, h2, h3⟩ => ⟨d, u, h1, h2, h3⟩) rfl ⟨r, m, e, hs, hr, ?_⟩
  exact (doE_wp hs p).mono (fun y m1 w1 r1 H1 v x1 hr1 hv => w1 r1 H1 _ x1 hr1 ((hs.ext x1).set hv)) fun _ _ q => q
theorem lc2_reads {wi : TI} (hts : ∀ i ∈ ts, i ∈ own.map (·.2)) (hts1 : ∀ i ∈ ts1, i ∈ vs1) {s : L2.St} {H : Hp} {Q Q' : VK} (hQ : ∀ v H, LkQ Q v H → Q' v H) (hw : wi = LI X.K cn W src) (h : LE X.K cn W (eComp src (own.map (·.2)) (turnC2 g t src1 vs1 (turnC g1 t1 f))) s H Q) :
    tLc2 wi (LG X.K cn ts g) (LT X.K cn WN t) (LI X.K cn WN src1) (LG X.K cn ts1 g1) (LT X.K cn WN t1) (LE X.K cn WN f) (own.map (·.2)) vs1 s H Q' := by
  subst hw
  obtain ⟨r, m, e, hs, hr, w⟩ := h
  refine ⟨r, m, e, hs, hr, ?_⟩
  unfold eComp at w
  cases q : src e m with
  | exc x m1 => rw [q] at w; exact w
  | bad => rw [q] at w; exact w
  | ok sr m1 =>
    rw [q] at w
    simp only at w
    intro r1 H1 J x1 hr1 hJ D hD
    cases q1 : collS sr (turnC2 g t src1 vs1 (turnC g1 t1 f) (wipeM e (own.map (·.2)))) m1 with
    | exc _ _ => rw [q1] at w; exact w.elim
    | bad => rw [q1] at w; exact w.elim
    | ok ys mz =>
      rw [q1] at w
      simp only at w
      by_cases hz : ys.length ≤ sizeLine
      · rw [if_pos hz] at w
        have p1 : PostE X.K cn r1 H1 Q (.con ys) mz := PostE.ext w x1
        rw [collS_G] at q1
        have hs1 := (hs.ext x1).wiped (own.map (·.2))
        generalize hT : turnC2 g t src1 vs1 (turnC g1 t1 f) (wipeM e (own.map (·.2))) = turn at q1
        refine ⟨fun i k H' => ∃ r' m' acc vs, Coll X.K cn D r1 H1 H' ys (fun m => collG (nxt sr) turn k i m) mz r' m' acc vs, ⟨_, r1, m1, [], [], Coll.start hr1 hD q1⟩, ?_⟩
        rintro i k H2 ⟨r2, m2, acc, vs, c⟩
        obtain ⟨zs, go1, g2⟩ := c.go
        rcases coll_turn hJ c.ext.v c.hr go1 with ⟨st, e1, e2⟩ | ⟨k', rfl, go, a, ys', m3, zs', hy, h3, h4, h5⟩
        · subst e1 e2
          exact .inl ⟨st, hQ _ _ (c.fin hD go1 p1)⟩
        · refine .inr ⟨go, fun H' => ∃ r' m' acc vs, Coll X.K cn D r1 H1 H' ys (fun m => collG (nxt sr) turn k' (i + 1) m) mz r' m' acc vs, fun H' h => ⟨k', Nat.lt_succ_self _, h⟩, fun y H3 hyl => ?_⟩
          obtain ⟨x3, hr3, ry⟩ := hy y H3 hyl
          rw [← hT] at h3
          unfold turnC2 at h3
          have hs3 := (hs1.ext c.ext).ext x3
          cases q3 : g a (wipeM e (own.map (·.2))) with
          | none => rw [q3] at h3; cases h3
          | some e3 =>
            rw [q3] at h3
            simp only at h3
            refine ⟨r2, m2, _, e3, a, hs3, hr3, ry, q3, fun r4 H4 s4 x4 hr4 hs4 same => ⟨wipe_back same hts, r4, m2, e3, hs4, hr4, ?_⟩⟩
            have x34 := x3.trans x4
            cases q4 : t e3 m2 with
            | exc _ _ => rw [q4] at h3; cases h3
            | bad => rw [q4] at h3; cases h3
            | ok b m4 =>
              rw [q4] at h3
              cases b with
              | false =>
                simp only at h3
                cases h3
                intro r5 H5 x5 hr5
                rw [if_neg Bool.false_ne_true]
                exact ⟨r5, _, acc, vs, c.step (x34.trans x5) hr5 ⟨zs', h4, by rw [← g2, h5]; rfl⟩⟩
              | true =>
                simp only at h3
                intro r5 H5 x5 hr5
                rw [if_pos rfl]
                refine ⟨r5, m4, e3, hs4.ext x5, hr5, ?_⟩
                cases q5 : src1 e3 m4 with
                | exc _ _ => rw [q5] at h3; cases h3
                | bad => rw [q5] at h3; cases h3
                | ok sr1 m5 =>
                  rw [q5] at h3
                  simp only at h3
                  intro r6 H6 J1 x6 hr6 hJ1
                  rw [collS_G] at h3
                  have hs6 := ((hs4.ext x5).ext x6).wiped vs1
                  generalize hT1 : turnC g1 t1 f (wipeM e3 vs1) = turn1 at h3
                  have xx := x34.trans (x5.trans x6)
                  have c6 := c.step (rest' := fun m => (match collG (nxt sr1) turn1 (lenS m5 sr1) 0 m with
                    | .ok ys m' => (match collG (nxt sr) turn k' (i + 1) m' with
                      | .ok zs m'' => .ok (ys ++ zs) m''
                      | _ => .bad)
                    | _ => .bad)) xx hr6 ⟨ys' ++ zs', by simp only [h3, h4], by rw [← g2, h5]⟩
                  refine ⟨fun j k1 H' => ∃ r' m' acc vs, Coll X.K cn D r1 H1 H' ys (fun m => (match collG (nxt sr1) turn1 k1 j m with
                    | .ok ys m' => (match collG (nxt sr) turn k' (i + 1) m' with
                      | .ok zs m'' => .ok (ys ++ zs) m''
                      | _ => .bad)
                    | _ => .bad)) mz r' m' acc vs ∧ ExtV r6 H6 r' H', ⟨_, r6, m5, acc, vs, c6, .refl⟩, ?_⟩
                  rintro j k1 H7 ⟨r7, m7, acc7, vs7, c7, x7⟩
                  obtain ⟨us, go7, g7⟩ := c7.go
                  cases q7 : collG (nxt sr1) turn1 k1 j m7 with
                  | exc _ _ => rw [q7] at go7; cases go7
                  | bad => rw [q7] at go7; cases go7
                  | ok us1 m8 =>
                    rw [q7] at go7
                    simp only at go7
                    cases q8 : collG (nxt sr) turn k' (i + 1) m8 with
                    | exc _ _ => rw [q8] at go7; cases go7
                    | bad => rw [q8] at go7; cases go7
                    | ok us2 m9 =>
                      rw [q8] at go7
                      cases go7
                      rcases coll_turn hJ1 x7 c7.hr q7 with ⟨st, e1, e2⟩ | ⟨k2, rfl, go8, a8, ys8, m10, zs8, hy8, h83, h84, h85⟩
                      · subst e1 e2
                        exact .inl ⟨st, r7, _, acc7, vs7, c7.step .refl c7.hr ⟨us2, q8, g7⟩⟩
                      · refine .inr ⟨go8, fun H' => ∃ r' m' acc vs, Coll X.K cn D r1 H1 H' ys (fun m => (match collG (nxt sr1) turn1 k2 (j + 1) m with
                          | .ok ys m' => (match collG (nxt sr) turn k' (i + 1) m' with
                            | .ok zs m'' => .ok (ys ++ zs) m''
                            | _ => .bad)
                          | _ => .bad)) mz r' m' acc vs ∧ ExtV r6 H6 r' H', fun H' h => ⟨k2, Nat.lt_succ_self _, h⟩, fun y H8 hyl8 => ?_⟩
                        obtain ⟨x8, hr8, ry8⟩ := hy8 y H8 hyl8
                        rw [← hT1] at h83
                        unfold turnC at h83
                        cases q9 : g1 a8 (wipeM e3 vs1) with
                        | none => rw [q9] at h83; cases h83
                        | some e9 =>
                          rw [q9] at h83
                          simp only at h83
                          refine ⟨r7, m7, _, e9, a8, (hs6.extV x7).ext x8, hr8, ry8, q9, fun r10 H10 s10 x10 hr10 hs10 same10 => ⟨wipe_back same10 hts1, r10, m7, e9, hs10, hr10, ?_⟩⟩
                          have x810 := x8.trans x10
                          cases q10 : t1 e9 m7 with
                          | exc _ _ => rw [q10] at h83; cases h83
                          | bad => rw [q10] at h83; cases h83
                          | ok b m11 =>
                            rw [q10] at h83
                            cases b with
                            | false =>
                              simp only at h83
                              cases h83
                              intro r11 H11 x11 hr11
                              rw [if_neg Bool.false_ne_true]
                              have x12 := x810.trans x11
                              exact ⟨r11, _, acc7, vs7, c7.step x12 hr11 ⟨zs8 ++ us2, by simp only [h84, q8], by rw [← g7, h85]; rfl⟩, x7.trans x12.v⟩
                            | true =>
                              simp only at h83
                              intro r11 H11 x11 hr11
                              rw [if_pos rfl]
                              refine ⟨r11, m11, e9, hs10.ext x11, hr11, ?_⟩
                              cases q11 : f e9 m11 with
                              | exc _ _ => rw [q11] at h83; cases h83
                              | bad => rw [q11] at h83; cases h83
                              | ok z m12 =>
                                rw [q11] at h83
                                cases h83
                                intro r12 H12 v x12 hr12 hv
                                have x13 := x810.trans (x11.trans x12)
                                have c2 := c7.step (rest' := fun m => (match collG (nxt sr1) turn1 k2 (j + 1) m with
                                  | .ok ys m' => (match collG (nxt sr) turn k' (i + 1) m' with
                                    | .ok zs m'' => .ok (z :: (ys ++ zs)) m''
                                    | _ => .bad)
                                  | _ => .bad)) x13 hr12 ⟨z :: (zs8 ++ us2), by simp only [h84, q8], by rw [← g7, h85]; rfl⟩
                                have hl : vs7.length < sizeLine := by
                                  rw [← c7.rvs.length]
                                  have l1 : acc7.length + (us1 ++ us2).length = ys.length := by rw [← g7]; simp
                                  have l2 : us1.length = zs8.length + 1 := by rw [h85]; simp
                                  rw [List.length_append] at l1
                                  omega
                                refine ⟨vs7, c2.at_, hl, r12, _, acc7 ++ [z], vs7 ++ [v], c2.push hD hv ⟨zs8 ++ us2, by simp only [h84, q8], by rw [← g7, h85]; simp⟩, ?_⟩
                                exact (x7.trans x13.v).trans (extV_side c2.at_)
      · rw [if_neg hz] at w; exact w.elim
theorem e_lc2 (hc : X.calm = true) (hN : X.N.Nodup) (hi : JI X cn W tg iter src) (ok : BlkOk X.N X.env.scope scope own) (hv : ∀ i ∈ vs1, i ∈ own.map (·.2))
    (hg : ∀ (s : Shared) (H : Hp) (C : Addr) (cl : List (Str × Addr)) (fp : List Addr), JG (X.blk s H scope (compEnvC scope cl C X.env) fp) cn ts tg g) (ht : ∀ (s : Shared) (H : Hp) (C : Addr) (cl : List (Str × Addr)) (fp : List Addr), JTs (X.blk s H scope (compEnvC scope cl C X.env) fp) cn WN ifs t)
    (hi1 : ∀ (s : Shared) (H : Hp) (C : Addr) (cl : List (Str × Addr)) (fp : List Addr), JI (X.blk s H scope (compEnvC scope cl C X.env) fp) cn WN tg1 iter1 src1)
    (hg1 : ∀ (s : Shared) (H : Hp) (C : Addr) (cl : List (Str × Addr)) (fp : List Addr), JG (X.blk s H scope (compEnvC scope cl C X.env) fp) cn ts1 tg1 g1) (ht1 : ∀ (s : Shared) (H : Hp) (C : Addr) (cl : List (Str × Addr)) (fp : List Addr), JTs (X.blk s H scope (compEnvC scope cl C X.env) fp) cn WN ifs1 t1)
    (he : ∀ (s : Shared) (H : Hp) (C : Addr) (cl : List (Str × Addr)) (fp : List Addr), JE (X.blk s H scope (compEnvC scope cl C X.env) fp) cn WN elt f) (hts : ∀ i ∈ ts, i ∈ own.map (·.2) := by decide) (hts1 : ∀ i ∈ ts1, i ∈ vs1 := by decide)
    (hs : ∀ x, foldedSetIterable iter X.env x = pure x := by intro _; rfl) (hs1 : ∀ env x, foldedSetIterable iter1 env x = pure x := by intro _ _; rfl) :
    JE X cn W (.ListComp elt [⟨tg, iter, ifs, 0⟩, ⟨tg1, iter1, ifs1, 0⟩] scope pos) (eComp src (own.map (·.2)) (turnC2 g t src1 vs1 (turnC g1 t1 f))) :=
  pe_imp (pe_lk (pe_lc2 (vs1 := vs1) (wi := LI X.K cn W src) (g := LG X.K cn ts g) (tt := LT X.K cn WN t) (wi1 := LI X.K cn WN src1) (g1 := LG X.K cn ts1 g1) (tt1 := LT X.K cn WN t1) (te := LE X.K cn WN f) hc hN hi ok hv hg ht hi1 hg1 ht1 he hs hs1)) fun s H Q h => lc2_reads hts hts1 (fun _ _ q => q) rfl h
theorem s_setLc2 {i : Nat} {y : Str} {py spos : Pos} (hc : X.calm = true) (hN : X.N.Nodup) (hy : X.N[i]? = some y) (hyl : X.env.scope.names.lookup y = some .local)
    (hsw : swapsWith (.ListComp elt [⟨tg, iter, ifs, 0⟩, ⟨tg1, iter1, ifs1, 0⟩] scope pos) (some (.Name y py)) spos.line X.env = pure true) (hi : JI X cn W tg iter src) (ok : BlkOk X.N X.env.scope scope own) (hv : ∀ i ∈ vs1, i ∈ own.map (·.2))
    (hg : ∀ (s : Shared) (H : Hp) (C : Addr) (cl : List (Str × Addr)) (fp : List Addr), JG (X.blk s H scope (compEnvC scope cl C X.env) fp) cn ts tg g) (ht : ∀ (s : Shared) (H : Hp) (C : Addr) (cl : List (Str × Addr)) (fp : List Addr), JTs (X.blk s H scope (compEnvC scope cl C X.env) fp) cn WN ifs t)
    (hi1 : ∀ (s : Shared) (H : Hp) (C : Addr) (cl : List (Str × Addr)) (fp : List Addr), JI (X.blk s H scope (compEnvC scope cl C X.env) fp) cn WN tg1 iter1 src1)
    (hg1 : ∀ (s : Shared) (H : Hp) (C : Addr) (cl : List (Str × Addr)) (fp : List Addr), JG (X.blk s H scope (compEnvC scope cl C X.env) fp) cn ts1 tg1 g1) (ht1 : ∀ (s : Shared) (H : Hp) (C : Addr) (cl : List (Str × Addr)) (fp : List Addr), JTs (X.blk s H scope (compEnvC scope cl C X.env) fp) cn WN ifs1 t1)
    (he : ∀ (s : Shared) (H : Hp) (C : Addr) (cl : List (Str × Addr)) (fp : List Addr), JE (X.blk s H scope (compEnvC scope cl C X.env) fp) cn WN elt f) (hts : ∀ i ∈ ts, i ∈ own.map (·.2) := by decide) (hts1 : ∀ i ∈ ts1, i ∈ vs1 := by decide)
    (hs : ∀ x, foldedSetIterable iter X.env x = pure x := by intro _; rfl) (hs1 : ∀ env x, foldedSetIterable iter1 env x = pure x := by intro _ _; rfl) :
    JS X cn W (.Assign [.Name y py] (.ListComp elt [⟨tg, iter, ifs, 0⟩, ⟨tg1, iter1, ifs1, 0⟩] scope pos) spos) (sSet i (eComp src (own.map (·.2)) (turnC2 g t src1 vs1 (turnC g1 t1 f)))) := by
  refine ps_imp (ps_lk (ps_setLc2 (vs1 := vs1) (wi := LI X.K cn W src) (g := LG X.K cn ts g) (tt := LT X.K cn WN t) (wi1 := LI X.K cn WN src1) (g1 := LG X.K cn ts1 g1) (tt1 := LT X.K cn WN t1) (te := LE X.K cn WN f) hc hN hy hyl hsw hi ok hv hg ht hi1 hg1 ht1 he hs hs1)) fun D s H ⟨r, m, e, hs, hr, p⟩ => ?_
  refine lc2_reads (Q := fun v H' => D.nx (s.set i (some v)) H') hts hts1 (fun v H' ⟨d, u, _, h1, h2, h3⟩ => ⟨d, u, h1, h2, h3⟩) rfl ⟨r, m, e, hs, hr, ?_⟩
  exact (doE_wp hs p).mono (fun y m1 w1 r1 H1 v x1 hr1 hv => w1 r1 H1 _ x1 hr1 ((hs.ext x1).set hv)) fun _ _ q => q
end
end Mi
end

section
set_option Elab.async false
set_option linter.all false
set_option maxRecDepth 100000
set_option maxHeartbeats 2000000
namespace Mi
open PySem PySem.Spec PyProof.Rows L2

/-! ### what a def promises -/
def PostXE (K : PySem.W.Frag) (cn : Cn) (E : XK) (r : Rho) (H : Hp) (x : MX) (m : MH) : Prop := ∀ r' H' cls d, Ext r H r' H' → HR K cn r' m H' → ER K cn r' H' x cls d → E cls d H'
def spM (K : PySem.W.Frag) (cn : Cn) (h : List MV → MM MV) : Sp := fun vs H Q E => ∃ r m as, HR K cn r m H ∧ RVs K cn r H as vs ∧ Wp (h as m) (PostE K cn r H Q) (PostXE K cn E r H)
/-- .. of a fixed number of arguments -/
def spN (K : PySem.W.Frag) (cn : Cn) (n : Nat) (h : List MV → MM MV) : Sp := fun vs H Q E => ∃ r m as, HR K cn r m H ∧ RVs K cn r H as vs ∧ as.length = n ∧ Wp (h as m) (PostE K cn r H Q) (PostXE K cn E r H)
def ofN (n : Nat) (h : List MV → MM MV) : List MV → MM MV := fun as => if as.length = n then h as else MM.fail
theorem spM_N {K : PySem.W.Frag} {cn : Cn} {n : Nat} {h : List MV → MM MV} {vs : List V} {H : Hp} {Q : VK} {E : XK} (p : spM K cn (ofN n h) vs H Q E) : spN K cn n h vs H Q E := by
  obtain ⟨r, m, as, hr, ha, w⟩ := p
  unfold ofN at w
  by_cases q : as.length = n
  · rw [if_pos q] at w; exact ⟨r, m, as, hr, ha, q, w⟩
  · rw [if_neg q] at w; exact w.elim
def startM (len : Nat) (as : List MV) : ME := as.map some ++ List.replicate (len - as.length) none
/-- a body, run -/
def runF (len : Nat) (g : SM) : List MV → MM MV := fun as m => match g (startM len as) m with
  | .rt a m' => .ok a m'
  | .nx _ m' => .ok .non m'
  | .exc x _ m' => .exc x m'
  | _ => .bad
theorem start_sr {K : PySem.W.Frag} {cn : Cn} {r : Rho} {H : Hp} {N : List Str} {as : List MV} {vs : List V} (h : RVs K cn r H as vs) : SR K cn r H (startM N.length as) (L2.start N vs) := by
  have hl := h.length
  refine ⟨by unfold startM L2.start; simp [hl], fun i a q => ?_⟩
  unfold startM at q
  by_cases hi : i < as.length
  · rw [List.getElem?_append_left (by simpa using hi), List.getElem?_map] at q
    obtain ⟨b, e1, e2⟩ := Option.map_eq_some_iff.mp q
    cases e2
    obtain ⟨v, h1, h2⟩ := h.get e1
    refine ⟨v, ?_, h2⟩
    unfold L2.start
    rw [List.getElem?_append_left (by simpa [← hl] using hi), List.getElem?_map, h1]
    rfl
  · rw [List.getElem?_append_right (by simpa using hi), List.getElem?_replicate] at q
    split at q <;> cases q
/-- the wish of a def's body -/
abbrev WB (E : XK) : WX := fun cls d _ H' => E cls d H'
theorem body_ends {K : PySem.W.Frag} {cn : Cn} {n : Nat} {N : List Str} {g : SM} {vs : List V} {H : Hp} {Q : VK} {E : XK} (p : spN K cn n (runF N.length g) vs H Q E) :
    LS K cn (WB E) g { nx := fun _ H' => Q .non H', rt := Q } (L2.start N vs) H := by
  obtain ⟨r, m, as, hr, ha, _, w⟩ := p
  refine ⟨r, m, _, start_sr ha, hr, ?_⟩
  unfold runF at w
  cases q : g (startM N.length as) m with
  | nx e' m' => rw [q] at w; exact fun r' H' s' x hr' _ => w r' H' _ x hr' .non
  | rt a m' => rw [q] at w; exact w
  | exc x e' m' => rw [q] at w; exact fun r' H' s' cls d x hr' _ he => w r' H' cls d x hr' he
  | bk _ _ => rw [q] at w; exact w.elim
  | ct _ _ => rw [q] at w; exact w.elim
  | bad => rw [q] at w; exact w
abbrev CtxOf (P : Program) (w : World) (K : PySem.W.Frag) (mg : Str → Option Value) (base : Heap) (N : List Str) (qual : Str) (scope : Scope) (f : Addr) (cd : Value) (A : Around) (outer : List Env) (s : Shared) (H : Hp) (E : XK) : Cx := cxOf (L2.CX P w) P w K mg base N qual scope f cd A outer s H E
/-- room for k calls, no repr is under way -/
structure RoomG (k : Nat) (A : Around) : Prop where
  room : Room k A
  gd : A.guards = some []
theorem RoomG.mono {j k : Nat} {A : Around} (r : RoomG k A) (h : j ≤ k) : RoomG j A := ⟨r.room.mono h, r.gd⟩
theorem RoomG.deeper {k : Nat} {A : Around} (r : RoomG (k + 1) A) (env : Env) : RoomG k (A.deeper env) := ⟨r.room.deeper env, r.gd⟩
/-- what a def promises of a call with positional and keyword arguments (named ks) -/
def FnG (P : Program) (w : World) (K : PySem.W.Frag) (mg : Str → Option Value) (base : Heap) (cn : Cn) (k : Nat) (f : Addr) (ks : List Str) (h : List MV → List MV → MM MV) : Prop :=
  ∀ (A : Around) (outer : List Env) (s : Shared) (H : Hp) (us ws : List Value) (vs zs : List V) (Q : VK) (E : XK), RoomG k A → Env0 P w K mg base A outer s H → Vals vs us → Vals zs ws → ws.length = ks.length →
    (∃ r m as bs, HR K cn r m H ∧ RVs K cn r H as vs ∧ RVs K cn r H bs zs ∧ Wp (h as bs m) (PostE K cn r H Q) (PostXE K cn E r H)) → codeAny (model P w) A (.call (.ref f) ⟨us, ks.zip ws⟩) (CR (L2.CX P w) outer P w H s Q E) s
theorem FnG.mono {P : Program} {w : World} {K : PySem.W.Frag} {mg : Str → Option Value} {base : Heap} {cn : Cn} {j k : Nat} {f : Addr} {ks : List Str} {h : List MV → List MV → MM MV} (F : FnG P w K mg base cn j f ks h) (l : j ≤ k) : FnG P w K mg base cn k f ks h :=
  fun A outer s H us ws vs zs Q E hr => F A outer s H us ws vs zs Q E (hr.mono l)
theorem FnG.bad {P : Program} {w : World} {K : PySem.W.Frag} {mg : Str → Option Value} {base : Heap} {cn : Cn} {k : Nat} {f : Addr} {ks : List Str} : FnG P w K mg base cn k f ks (fun _ _ _ => .bad) :=
  fun A outer s H us ws vs zs Q E hr e0 r1 r2 l ⟨_, _, _, _, _, _, _, z⟩ => z.elim
/-- how the parameters are bound: n positional values, keywords named ks; gM puts them (and the defaults) in the parameters' order -/
structure BndM (K : PySem.W.Frag) (cn : Cn) (fd : FuncData) (ps : List Str) (n : Nat) (ks : List Str) (gM : List MV → List MV → List MV) : Prop where
  ex : ∃ g : List Value → List Value → List Value,
    (∀ (s : Shared) (us ws : List Value), K.In s.heap → us.length = n → ws.length = ks.length → BindsTo s fd ⟨us, ks.zip ws⟩ (ps.zip (g us ws))) ∧
    ∀ (r : Rho) (H : Hp) (us ws : List Value) (vs zs : List V) (as bs : List MV), Vals vs us → Vals zs ws → RVs K cn r H as vs → RVs K cn r H bs zs → as.length = n → bs.length = ks.length →
      ∃ vs', Vals vs' (g us ws) ∧ RVs K cn r H (gM as bs) vs' ∧ vs'.length = ps.length
/-- the arguments bound, then the body -/
def bindM (n : Nat) (nk : Nat) (gM : List MV → List MV → List MV) (h : List MV → MM MV) : List MV → List MV → MM MV := fun as bs => if as.length = n ∧ bs.length = nk then h (gM as bs) else MM.fail
section
variable {P : Program} {w : World} {K : PySem.W.Frag} {mg : Str → Option Value} {base : Heap} {x qual : Str} {params : Arguments} {body : List Stmt} {scope : Scope} {dvs : List V} {kws : List (Str × V)} {f : Addr} {fd : FuncData} {cn : Cn}
/-- a def of the text keeps what its body says -/
theorem fg_of {N ps : List Str} {n k : Nat} {ks : List Str} {gM : List MV → List MV → List MV} {g : SM} (F : FunD K x qual params body scope dvs kws f fd) (S : FnScope N ps scope) (B : BndM K cn fd ps n ks gM)
    (hbody : ∀ (cdv : Value) (A : Around) (outer : List Env) (s : Shared) (H : Hp) (E : XK), RoomG k (A.deeper (envOfC qual scope s.heap.objs.size f cdv)) → JSs (CtxOf P w K mg base N qual scope f cdv A outer s H E) cn (WB E) body g) :
    FnG P w K mg base cn (k + 1) f ks (bindM n ks.length gM (runF N.length g)) := by
  intro A outer s H us ws vs zs Q E hr e0 rv rz hl ⟨r, m, as, bs, h1, h2, h3, w0⟩
  unfold bindM at w0
  by_cases hc : as.length = n ∧ bs.length = ks.length
  · rw [if_pos hc] at w0
    obtain ⟨oc, od, dV, kV, doc, pm, an, cdv, ct, osl, rfl, lk, hcd, _, _⟩ := F.ex
    obtain ⟨gb, hb1, hb2⟩ := B.ex
    have KX : K.In s.heap := e0.mod.kin.keeps fun b o e => (e0.bs b o e).1
    have hu : us.length = n := by rw [← rv.length, ← h2.length]; exact hc.1
    obtain ⟨vs', r1, r2, r3⟩ := hb2 r H us ws vs zs as bs rv rz h2 h3 hc.1 hc.2
    refine StX.run_bnd lk hcd S hr.room e0 (G := fun xs H2 => xs = vs' ∧ H2 = H) (fun A' Ex Q' h => ?_) fun s2 H2 xs ⟨ex, eH⟩ hr' => ?_
    · exact hb1 s us ws KX hu hl _ _ _ _ (h s H vs' (gb us ws) e0 (Un.kept fun _ _ e => e) rfl (fun _ _ z => z) r1 r3 ⟨rfl, rfl⟩)
    · subst ex eH
      exact ⟨_, hbody cdv A outer s2 H2 E ⟨hr', hr.gd⟩, body_ends (n := (gM as bs).length) ⟨r, m, gM as bs, h1, r2, rfl, w0⟩⟩
  · rw [if_neg hc] at w0; exact w0.elim
/-- .. def f(a, .., *v) -/
def starM (n : Nat) (h : List MV → MM MV) : List MV → List MV → MM MV := fun as bs => if n ≤ as.length ∧ as.length - n ≤ sizeLine ∧ bs = [] then h (as.take n ++ [.tup (as.drop n)]) else MM.fail
theorem fg_star {N ps : List Str} {pv : Str} {k : Nat} {g : SM} (F : FunD K x qual params body scope [] kws f fd) (S : FnScope N (ps ++ [pv]) scope)
    (hb : ∀ (kV doc pm : Value) (an : Option Addr) (cdv ct : Value) (us rest : List Value), us.length = ps.length → bindArgs (PySem.W.fnOf x qual params body scope .none kV doc pm an cdv ct) ⟨us ++ rest, []⟩ = (newTuple rest >>= fun t => pure (ps.zip us ++ [(pv, t)])))
    (hbody : ∀ (cdv : Value) (A : Around) (outer : List Env) (s : Shared) (H : Hp) (E : XK), RoomG k (A.deeper (envOfC qual scope s.heap.objs.size f cdv)) → JSs (CtxOf P w K mg base N qual scope f cdv A outer s H E) cn (WB E) body g) :
    FnG P w K mg base cn (k + 1) f [] (starM ps.length (runF N.length g)) := by
  intro A outer s H us ws vs zs Q E hr e0 rv rz hl ⟨r, m, as, bs, h1, h2, h3, w0⟩
  unfold starM at w0
  by_cases hc : ps.length ≤ as.length ∧ as.length - ps.length ≤ sizeLine ∧ bs = []
  · rw [if_pos hc] at w0
    obtain ⟨oc, od, dV, kV, doc, pm, an, cdv, ct, osl, rfl, lk, hcd, hD, _⟩ := F.ex
    obtain rfl : dV = .none := by
      rcases hD with ⟨_, e⟩ | ⟨e, _⟩
      · exact e
      · exact absurd rfl e
    have ew : ws = [] := by cases ws with | nil => rfl | cons _ _ => cases hl
    subst ew
    have hva : as.length = vs.length := h2.length
    have es : vs = vs.take ps.length ++ vs.drop ps.length := (List.take_append_drop _ _).symm
    have r0 : Vals (vs.take ps.length ++ vs.drop ps.length) us := by rw [← es]; exact rv
    obtain ⟨u1, u2, eu, r1, r2⟩ := StX.vals_split r0
    subst eu
    have hn : H s.heap.objs.size = Option.none := e0.hok.fresh (Nat.le_refl _)
    have hl0 : (vs.take ps.length).length = ps.length := by rw [List.length_take]; omega
    have hl1 : u1.length = ps.length := by rw [← r1.length]; exact hl0
    have hz : (vs.drop ps.length).length ≤ sizeLine := by rw [List.length_drop]; omega
    have hl2 : u2.length ≤ sizeLine := by rw [← r2.length]; exact hz
    refine StX.run_bnd lk hcd S hr.room e0 (G := fun xs H2 => ∃ p, H p = Option.none ∧ xs = vs.take ps.length ++ [V.ref p] ∧ H2 = upd H p (.tup (vs.drop ps.length))) (fun A' Ex Q' h => ?_) fun s2 H2 xs ⟨p, hp, ex, eH⟩ hr' => ?_
    · show wpAny _ _ (bindArgs _ ⟨u1 ++ u2, []⟩) _ _ _
      rw [hb _ _ _ _ _ _ u1 u2 hl1]
      refine wpAny_bind (wpAny_newTuple (wpAny_pure ?_) hl2)
      have new : ObjOk P w (upd H s.heap.objs.size (.tup (vs.drop ps.length))) (s.heap.push ({ cls := .type "tuple", data := .seq u2.toArray } : Obj)) s.heap.objs.size (.tup (vs.drop ps.length)) := ⟨hz, u2, r2, ⟨_, Heap.get?_push_size _ rfl, rfl, _, rfl⟩⟩
      have un := StX.un_laid (fs := frs outer) (s := s) (o := ({ cls := .type "tuple", data := .seq u2.toArray } : Obj)) (u := .tup (vs.drop ps.length)) hn
      have z := h _ _ (vs.take ps.length ++ [V.ref s.heap.objs.size]) (u1 ++ [Value.ref s.heap.objs.size]) (StX.env0_laid e0 new) un rfl (fun e s' => StX.cxUp outer s H _ _ E e s' un (fun b o q => Heap.get?_push_of_some _ q) rfl) (r1.append (.cons rfl .nil))
        (by rw [List.length_append, List.length_append, hl0] <;> rfl) ⟨_, hn, rfl, rfl⟩
      rw [List.zip_append hl1.symm] at z
      exact z
    · subst ex eH
      refine ⟨_, hbody cdv A outer s2 _ E ⟨hr', hr.gd⟩, body_ends (n := (as.take ps.length ++ [MV.tup (as.drop ps.length)]).length) ⟨r, m, as.take ps.length ++ [.tup (as.drop ps.length)], h1.tup hp, ?_, rfl, w0.mono (fun _ _ q => PostE.ext q (ext_tup hp)) fun _ _ q r' H' cls d y => q r' H' cls d ((ext_tup hp).trans y)⟩⟩
      exact ((h2.take _).ext (ext_tup hp)).app (.one (.tup (SqT.of upd_same) ((h2.drop _).ext (ext_tup hp))))
  · rw [if_neg hc] at w0; exact w0.elim
/-- no defaults, no keywords -/
theorem bndM_N {ps : List Str} (F : FunD K x qual params body scope [] kws f fd)
    (hb : ∀ (kV doc pm : Value) (an : Option Addr) (cdv ct : Value) (us : List Value), us.length = ps.length → bindArgs (PySem.W.fnOf x qual params body scope .none kV doc pm an cdv ct) ⟨us, []⟩ = pure (ps.zip us)) : BndM K cn fd ps ps.length [] (fun as _ => as) := by
  have B := F.bindsN hb
  refine ⟨fun us _ => us, fun s us ws KX h1 h2 => ?_, fun r H us ws vs zs as bs r1 r2 r3 r4 h1 h2 => ⟨vs, r1, r3, by rw [← r3.length]; exact h1⟩⟩
  have z := B s us KX (by rw [List.append_nil]; exact h1)
  rw [List.append_nil] at z
  have ew : ws = [] := by cases ws with | nil => rfl | cons _ _ => cases h2
  subst ew
  exact z
end
theorem takesB {P : Program} {w : World} {K : PySem.W.Frag} {mg : Str → Option Value} {base : Heap} {N : List Str} {qual : Str} {scope : Scope} {f : Addr} {cd : Value} {A : Around} {outer : List Env} {s : Shared} {H : Hp} {E : XK} :
    Takes (CtxOf P w K mg base N qual scope f cd A outer s H E) (WB E) := takes_of rfl rfl rfl rfl
theorem passB {P : Program} {w : World} {K : PySem.W.Frag} {mg : Str → Option Value} {base : Heap} {N : List Str} {qual : Str} {scope : Scope} {f : Addr} {cd : Value} {A : Around} {outer : List Env} {s : Shared} {H : Hp} {E : XK} :
    PassesOwn (model (CtxOf P w K mg base N qual scope f cd A outer s H E).prog (CtxOf P w K mg base N qual scope f cd A outer s H E).w) (CtxOf P w K mg base N qual scope f cd A outer s H E).A (CtxOf P w K mg base N qual scope f cd A outer s H E).env (CtxOf P w K mg base N qual scope f cd A outer s H E).xe := passes_of rfl
theorem takesN {X : Cx} : Takes X WN := takes_none5

/-! ### callees -/
/-- what a call of f does -/
def CallM (X : Cx) (cn : Cn) (W : WX) (f : Value) (h : List MV → MM MV) : Prop :=
  ∀ (pins : List (Addr × Obj)) (s : Shared) (σ : L2.St) (H : Hp) (us : List Value) (vs : List V) (Q : VK), Inv X pins σ H s → Vals vs us →
    (∃ r m as, HR X.K cn r m H ∧ RVs X.K cn r H as vs ∧ Wp (h as m) (PostE X.K cn r H Q) (PostX X.K cn W σ r H)) → wpAny (model X.prog X.w) X.A (call f us) (EP X pins σ Q) X.xe s
section
variable {X : Cx} {cn : Cn} {W : WX} {pos : Pos}
/-- .. with keywords -/
def CallMK (X : Cx) (cn : Cn) (W : WX) (f : Value) (ks : List Str) (h : List MV → List MV → MM MV) : Prop :=
  ∀ (pins : List (Addr × Obj)) (s : Shared) (σ : L2.St) (H : Hp) (us ws : List Value) (vs zs : List V) (Q : VK), Inv X pins σ H s → Vals vs us → Vals zs ws → ws.length = ks.length →
    (∃ r m as bs, HR X.K cn r m H ∧ RVs X.K cn r H as vs ∧ RVs X.K cn r H bs zs ∧ Wp (h as bs m) (PostE X.K cn r H Q) (PostX X.K cn W σ r H)) → wpAny (model X.prog X.w) X.A (call f us (ks.zip ws)) (EP X pins σ Q) X.xe s
theorem run_fgA {pins : List (Addr × Obj)} {σ : L2.St} {H : Hp} {s : Shared} {k : Nat} {f : Addr} {ks : List Str} {h : List MV → List MV → MM MV} {E : XK} {Q : VK} {us ws : List Value} {vs zs : List V} (F : FnG X.prog X.w X.K X.mg X.base cn k f ks h) (hr : RoomG k X.A) (hx : PassesAt (L2.CX X.prog X.w) X σ E) (I : Inv X pins σ H s) (r : Vals vs us) (rz : Vals zs ws) (hl : ws.length = ks.length)
    (q : ∃ r m as bs, HR X.K cn r m H ∧ RVs X.K cn r H as vs ∧ RVs X.K cn r H bs zs ∧ Wp (h as bs m) (PostE X.K cn r H Q) (PostXE X.K cn E r H)) :
    codeAny (model X.prog X.w) X.A (.call (.ref f) ⟨us, ks.zip ws⟩) (fun r s' => match r with | .ok (.ret v) => EP X pins σ Q v s' | .ok _ => False | .error e => X.xe e s') s := by
  refine codeAny_mono (F X.A X.stack s H us ws vs zs Q E hr I.env0 r rz hl q) fun r s' hq => ?_
  cases r with
  | error e => exact hx pins H s e s' I hq
  | ok fl =>
    cases fl with
    | ret u => exact I.after hq
    | next => exact False.elim hq
    | brk => exact False.elim hq
    | cont => exact False.elim hq
theorem cm_fn {k : Nat} {f : Addr} {h : List MV → List MV → MM MV} (F : FnG X.prog X.w X.K X.mg X.base cn k f [] h) (hr : RoomG k X.A) (tk : Takes X W) : CallM X cn W (.ref f) (fun as => h as []) := by
  intro pins s σ H us vs Q I r ⟨r0, m, as, h1, h2, w⟩
  exact wpAny_call (run_fgA (ws := []) (zs := []) F hr (passAt tk σ) I r .nil rfl ⟨r0, m, as, [], h1, h2, .nil, w⟩)
theorem cm_fnK {k : Nat} {f : Addr} {ks : List Str} {h : List MV → List MV → MM MV} (F : FnG X.prog X.w X.K X.mg X.base cn k f ks h) (hr : RoomG k X.A) (tk : Takes X W) : CallMK X cn W (.ref f) ks h := by
  intro pins s σ H us ws vs zs Q I r rz hl ⟨r0, m, as, bs, h1, h2, h3, w⟩
  exact wpAny_call (run_fgA F hr (passAt tk σ) I r rz hl ⟨r0, m, as, bs, h1, h2, h3, w⟩)
/-- an instance's class -/
def clsM (m : MH) : MV → Option (Str × List (Str × MV))
  | .obj c fs => some (c, fs)
  | .ref n => (match m[n]? with
    | some (.ins c fs) => some (c, fs)
    | _ => none)
  | _ => none
theorem cls_at {K : PySem.W.Frag} {r : Rho} {m : MH} {H : Hp} {a : MV} {v : V} {c : Str} {fs : List (Str × MV)} (hr : HR K cn r m H) (hv : RV K cn r H a v) (e : clsM m a = some (c, fs)) : ∃ p d vs, v = .ref p ∧ Rd H p (.ins (cn c) d vs) ∧ RFs K cn r H fs vs := by
  unfold clsM at e
  cases hv with
  | obj h t => cases e; exact ⟨_, _, _, rfl, .inr ⟨_, h⟩, t⟩
  | ref h =>
    obtain ⟨o, h1, h2⟩ := hr.get h
    simp only [h1] at e
    cases h2 with
    | lst h3 t => cases e
    | dct h3 t => cases e
    | ins h3 t => cases e; exact ⟨_, _, _, rfl, .inl h3, t⟩
    | ded h3 => cases e
  | _ => cases e
theorem at_end {K : PySem.W.Frag} {r : Rho} {m : MH} {H : Hp} (h : HR K cn r m H) {q : Addr × Addr} : (r ++ [q])[m.length]? = some q := by
  rw [← h.len, List.getElem?_append_right (Nat.le_refl _)]; simp
/-- C(..): the instance is written no more behind its __init__ -/
def hMake (c : Str) (h : List MV → MM MV) : List MV → MM MV := fun as m => match h (.ref m.length :: as) (m ++ [.ins c []]) with
  | .ok .non m2 => (match m2[m.length]? with
    | some (.ins c' fs) => if c' = c then .ok (.obj c fs) (m2.set m.length .ded) else .bad
    | _ => .bad)
  | .exc x m2 => .exc x m2
  | _ => .bad
/-- .. and it may be written -/
def hMakeR (c : Str) (h : List MV → MM MV) : List MV → MM MV := fun as m => match h (.ref m.length :: as) (m ++ [.ins c []]) with
  | .ok .non m2 => .ok (.ref m.length) m2
  | .exc x m2 => .exc x m2
  | _ => .bad
theorem RoomG.make {k : Nat} {A : Around} (r : RoomG (k + 1) A) (C : Addr) (us : List Value) (kw : List (Str × Value)) : RoomG k (A.under (.builtin "type.__call__" ⟨.ref C :: us, kw⟩)) := ⟨r.room.make C us kw, by
  simp only [Around.under]
  rw [r.gd]
  rfl⟩
theorem run_makeRA {pins : List (Addr × Obj)} {σ : L2.St} {H : Hp} {s : Shared} {k : Nat} {f C : Addr} {h : List MV → List MV → MM MV} {E : XK} {Q : VK} {us : List Value} {vs : List V} (M : Mk X.K C f) (F : FnG X.prog X.w X.K X.mg X.base cn k f [] h) (hr : RoomG (k + 1) X.A) (hx : PassesAt (L2.CX X.prog X.w) X σ E) (I : Inv X pins σ H s) (r : Vals vs us)
    (hq : ∀ x dx, H x = Option.none → H dx = Option.none → dx ≠ x → ∃ r m as, HR X.K cn r m (upd (upd H dx (.own x)) x (.ins C dx [])) ∧ RVs X.K cn r (upd (upd H dx (.own x)) x (.ins C dx [])) as (V.ref x :: vs) ∧
      Wp (h as [] m) (PostE X.K cn r (upd (upd H dx (.own x)) x (.ins C dx [])) (fun v H2 => v = .non ∧ Q (.ref x) H2)) (PostXE X.K cn E r (upd (upd H dx (.own x)) x (.ins C dx [])))) :
    wpAny (model X.prog X.w) X.A (call (.ref C) us) (EP X pins σ Q) X.xe s := by
  obtain ⟨r0, m, as, h1, h2, w⟩ := hq (s.heap.objs.size + 1) s.heap.objs.size (I.hok.fresh (Nat.le_succ _)) (I.hok.fresh (Nat.le_refl _)) (Nat.ne_of_lt (Nat.lt_succ_self _))
  have I2 := Inv.made (C := C) I
  have r2 : Vals (V.ref (s.heap.objs.size + 1) :: vs) (Value.ref (s.heap.objs.size + 1) :: us) := .cons rfl r
  refine wpAny_call (make_map (f := f) I.kIn M.makes M.init (beq_iff_eq.mp M.fn) (codeAny_mono (F _ X.stack _ _ (Value.ref (s.heap.objs.size + 1) :: us) [] _ [] _ E (hr.make C us []) (I2.env0.make C us []) r2 .nil rfl ⟨r0, m, as, [], h1, h2, .nil, w⟩) fun r s' hq' => ?_))
  cases r with
  | error e => exact hx pins _ _ e s' I2 hq'
  | ok fl =>
    cases fl with
    | ret u =>
      obtain ⟨v, H', I3, rv, ev, q3⟩ := I2.after hq'
      subst ev
      exact ⟨rv, ⟨V.ref (s.heap.objs.size + 1), H', I3, rfl, q3⟩⟩
    | next => exact False.elim hq'
    | brk => exact False.elim hq'
    | cont => exact False.elim hq'
theorem made_hr {K : PySem.W.Frag} {r : Rho} {m : MH} {H : Hp} {c : Str} {x dx : Addr} (hr : HR K cn r m H) (h1 : H x = none) (h2 : H dx = none) (h3 : dx ≠ x) :
    HR K cn (r ++ [(x, dx)]) (m ++ [.ins c []]) (upd (upd H dx (.own x)) x (.ins (cn c) dx [])) ∧ Ext r H (r ++ [(x, dx)]) (upd (upd H dx (.own x)) x (.ins (cn c) dx [])) := by
  have k : ∀ a u, H a = some u → upd (upd H dx (.own x)) x (.ins (cn c) dx []) a = some u := fun a u e => by
    rw [upd_ne (ne_of_none e h1), upd_ne (ne_of_none e h2)]; exact e
  have hx : Ext r H (r ++ [(x, dx)]) (upd (upd H dx (.own x)) x (.ins (cn c) dx [])) := .grow k fun p hp => by
    have e : p = (x, dx) := by simpa using hp
    rw [e]; exact h1
  exact ⟨hr.alloc h1 k hx (.ins upd_same .nil), hx⟩
theorem HR.kill {K : PySem.W.Frag} {r : Rho} {m : MH} {H : Hp} (h : HR K cn r m H) {i : Nat} {a d C dd : Addr} {vs : List (Str × V)} {od : Obj} (e : r[i]? = some (a, d)) (ho : H a = some (.ins C dd vs)) :
    HR K cn r (m.set i .ded) (upd H a (.frz od (.ins C dd vs))) ∧ Ext r H r (upd H a (.frz od (.ins C dd vs))) := by
  have hx : Ext r H r (upd H a (.frz od (.ins C dd vs))) := ext_write e ho (fun _ z => by cases z) fun _ _ z => by cases z
  exact ⟨h.write e hx (.ded upd_same), hx⟩
theorem cm_make {k : Nat} {f : Addr} {c : Str} {h : List MV → List MV → MM MV} (M : Mk X.K (cn c) f) (F : FnG X.prog X.w X.K X.mg X.base cn k f [] h) (hr : RoomG (k + 1) X.A) (tk : Takes X W) : CallM X cn W (.ref (cn c)) (hMake c fun as => h as []) := by
  intro pins s σ H us vs Q I r ⟨r0, m, as, h1, h2, w⟩
  refine thn (run_makeRA (Q := LkQ Q) M F hr (passAt tk σ) I r fun x dx hx hdx hne => ?_) fun _ _ q => ep_lock q
  obtain ⟨g1, g2⟩ := made_hr (c := c) h1 hx hdx hne
  refine ⟨_, _, .ref m.length :: as, g1, .cons (ref_new h1) (h2.ext g2), ?_⟩
  unfold hMake at w
  simp only at w
  cases q : h (.ref m.length :: as) [] (m ++ [.ins c []]) with
  | bad => rw [q] at w; exact w.elim
  | exc e m2 => rw [q] at w; exact fun r' H' cls d y hr' he => w r' H' cls d (g2.trans y) hr' he
  | ok a m2 =>
    rw [q] at w
    intro r2 H2 v x2 hr2 hv
    cases hv with
    | non =>
      refine ⟨rfl, ?_⟩
      simp only at w
      cases q2 : m2[m.length]? with
      | none => rw [q2] at w; exact w.elim
      | some o =>
        rw [q2] at w
        cases o with
        | ins c' fs =>
          simp only at w
          by_cases q3 : c' = c
          · rw [if_pos q3] at w
            subst q3
            have hn : r2[m.length]? = some (x, dx) := x2.get (at_end h1)
            cases hr2.at_ _ _ _ q2 hn with
            | ins l1 t1 =>
              refine ⟨x, _, rfl, l1, True.intro, fun od => ?_⟩
              obtain ⟨k1, k2⟩ := hr2.kill (od := od) hn l1
              exact w _ _ _ ((g2.trans x2).trans k2) k1 (.obj upd_same (t1.ext k2))
          · rw [if_neg q3] at w; exact w.elim
        | lst _ => exact w.elim
        | dct _ => exact w.elim
        | ded => exact w.elim
    | _ => exact w.elim
theorem cm_makeR {k : Nat} {f : Addr} {c : Str} {h : List MV → List MV → MM MV} (M : Mk X.K (cn c) f) (F : FnG X.prog X.w X.K X.mg X.base cn k f [] h) (hr : RoomG (k + 1) X.A) (tk : Takes X W) : CallM X cn W (.ref (cn c)) (hMakeR c fun as => h as []) := by
  intro pins s σ H us vs Q I r ⟨r0, m, as, h1, h2, w⟩
  refine run_makeRA M F hr (passAt tk σ) I r fun x dx hx hdx hne => ?_
  obtain ⟨g1, g2⟩ := made_hr (c := c) h1 hx hdx hne
  refine ⟨_, _, .ref m.length :: as, g1, .cons (ref_new h1) (h2.ext g2), ?_⟩
  unfold hMakeR at w
  simp only at w
  cases q : h (.ref m.length :: as) [] (m ++ [.ins c []]) with
  | bad => rw [q] at w; exact w.elim
  | exc e m2 => rw [q] at w; exact fun r' H' cls d y hr' he => w r' H' cls d (g2.trans y) hr' he
  | ok a m2 =>
    rw [q] at w
    intro r2 H2 v x2 hr2 hv
    cases hv with
    | non => exact ⟨rfl, w _ _ _ (g2.trans x2) hr2 (.ref (x2.get (at_end h1)))⟩
    | _ => exact w.elim
/-! ### calls -/
def eCall (h : List MV → MM MV) (af : ME → MM (List MV)) : EM := fun e => do h (← af e)
variable {a : Expr} {es : List Expr} {x : Str} {p sp_ : Pos} {f : Addr} {h : List MV → MM MV} {af : ME → MM (List MV)} {fe : EM}
theorem le_call {K : PySem.W.Frag} {s : L2.St} {H : Hp} {Q : VK} (w : LE K cn W (eCall h af) s H Q) : LA K cn W af s H fun vs H1 => ∃ r m as, HR K cn r m H1 ∧ RVs K cn r H1 as vs ∧ Wp (h as m) (PostE K cn r H1 Q) (PostX K cn W s r H1) := by
  obtain ⟨r, m, e, hs, hr, w⟩ := w
  refine ⟨r, m, e, hs, hr, w.bind.mono (fun xs m1 w1 r1 H1 vs x1 hr1 hv => ?_) fun _ _ q => q⟩
  exact ⟨r1, m1, xs, hr1, hv, w1.mono (fun _ _ q => q.ext x1) fun _ _ q => q.ext x1⟩
theorem e_call (c : CallM X cn W (.ref f) h) (hm : X.mg x = some (.ref f)) (hk : PySem.W.keepIn X.K (.ref f) = true) (ha : JA X cn W (a :: es) af) (hg : Gl X x := by rfl) (hdb : (x == ("__debug__" : Str)) = false := by decide)
    (he : starEach (a :: es) X.env = (false, eval a X.env) :: starEach es X.env := by rfl) (hpl : (backTo pos (starEach es X.env)).any (·.1) = false := by rfl) : JE X cn W (.Call (.Name x p) (a :: es) [] pos) (eCall h af) := by
  refine ⟨fun pins s σ H Q I w => ?_⟩
  refine wpAny_Call_Name_kw (ld_glob I hg hm ?_ hdb)
  refine PySem.W.callWith_K (h₀ := X.base) I.ok.mod.kin hk (thn (ha.run pos pins s σ H _ I (le_call w)) fun us s1 ⟨vs, H1, I1, r, q⟩ => ⟨I1.kIn, ?_⟩) he hpl
  exact c pins s1 σ H1 us vs Q I1 r q
theorem e_call0 (c : CallM X cn W (.ref f) h) (hm : X.mg x = some (.ref f)) (hk : PySem.W.keepIn X.K (.ref f) = true) (hg : Gl X x := by rfl) (hdb : (x == ("__debug__" : Str)) = false := by decide) : JE X cn W (.Call (.Name x p) [] [] pos) (eCall h aNil) := by
  refine ⟨fun pins s σ H Q I w => ?_⟩
  refine wpAny_Call_Name_kw (ld_glob I hg hm ?_ hdb)
  refine PySem.W.callWith_K0 I.kIn hk ?_
  obtain ⟨r, m, e, hs, hr, w⟩ := w
  exact c pins s σ H [] [] Q I .nil ⟨r, m, [], hr, .nil, w⟩
/-- x(e, .., *y, ..) -/
theorem e_callS2 (c : CallM X cn W (.ref f) h) (hm : X.mg x = some (.ref f)) (hk : PySem.W.keepIn X.K (.ref f) = true) (ha : JA X cn W (a :: es) af) (hg : Gl X x := by rfl) (hdb : (x == ("__debug__" : Str)) = false := by decide)
    (he : starEach (a :: es) X.env = (false, eval a X.env) :: starEach es X.env := by rfl) (hst : (backTo pos (starEach es X.env)).any (·.1) = true := by rfl) : JE X cn W (.Call (.Name x p) (a :: es) [] pos) (eCall h af) := by
  refine ⟨fun pins s σ H Q I w => ?_⟩
  refine wpAny_Call_Name_kw (ld_glob I hg hm ?_ hdb)
  refine PySem.W.callWith_S2 (h₀ := X.base) I.ok.mod.kin hk (thn (ha.run pos pins s σ H _ I (le_call w)) fun us s1 ⟨vs, H1, I1, r, q⟩ => ⟨I1.kIn, ?_⟩) he hst
  exact c pins s1 σ H1 us vs Q I1 r q
/-- x( *y) -/
def eCallS (h : List MV → MM MV) (f : EM) : EM := fun e => do
  let a ← f e
  let xs ← itemsM a
  h xs
theorem items_noexc {a : MV} {m m' : MH} {x : MX} : itemsM a m ≠ .exc x m' := fun q => by
  unfold itemsM at q
  split at q <;> first | cases q | (split at q <;> cases q)
theorem e_callS1 (c : CallM X cn W (.ref f) h) (hm : X.mg x = some (.ref f)) (hk : PySem.W.keepIn X.K (.ref f) = true) (ha : JE X cn W a fe) (hg : Gl X x := by rfl) (hdb : (x == ("__debug__" : Str)) = false := by decide)
    (hst : starEach [.Starred a sp_] X.env = [(true, eval a X.env)] := by rfl) : JE X cn W (.Call (.Name x p) [.Starred a sp_] [] pos) (eCallS h fe) := by
  refine ⟨fun pins s σ H Q I w => ?_⟩
  obtain ⟨r, m, e, hs, hr, w⟩ := w
  refine wpAny_Call_Name_kw (ld_glob I hg hm ?_ hdb)
  refine PySem.W.callWith_S (h₀ := X.base) I.ok.mod.kin hk (thn (ha.run pins s σ H (fun v H1 => ∃ q xs vs r1 m1 as, v = .ref q ∧ (SqT X.K H1 q vs ∨ SqL X.K H1 q vs) ∧ HR X.K cn r1 m1 H1 ∧ RVs X.K cn r1 H1 xs vs ∧ as = xs ∧ Wp (h as m1) (PostE X.K cn r1 H1 Q) (PostX X.K cn W σ r1 H1)) I ⟨r, m, e, hs, hr, w.bind.mono (fun b m1 w1 r1 H1 v x1 hr1 hv => ?_) fun _ _ q => q⟩) fun v s1 hq => ?_) hst
  · have w2 := w1.bind
    cases q : itemsM b m1 with
    | bad => rw [q] at w2; exact w2.elim
    | exc x' m' => exact absurd q items_noexc
    | ok ys m' =>
      rw [q] at w2
      obtain ⟨rfl, p', vs, rfl, hq, hys⟩ := items_at hr1 hv q
      exact ⟨p', ys, vs, r1, m', ys, rfl, hq, hr1, hys, rfl, Wp.mono w2 (fun _ _ q => q.ext x1) fun _ _ q => q.ext x1⟩
  · obtain ⟨y, H1, I1, ry, q', xs, vs, r1, m1, as, ey, hxs, hr1, hys, eas, w2⟩ := hq
    subst ey eas
    obtain rfl : v = Value.ref q' := ry
    exact StX.star_any I1 hxs fun us s2 I2 rv => ⟨I2.kIn, c pins s2 σ H1 us vs Q I2 rv ⟨r1, m1, _, hr1, hys, w2⟩⟩
end
end Mi
end

section
set_option Elab.async false
set_option linter.all false
set_option maxRecDepth 100000
set_option maxHeartbeats 2000000
namespace Mi
open PySem PySem.Spec PyProof.Rows L2

/-! ### several except clauses, with and without a name (the two rules of HandS.Exc and HandS.TryMany joined; the steps follow them) -/
/-- a clause: its class, its name's slot, its suite -/
structure Hd where
  c : Value
  i : Option Nat
  ts : Addr → Value → Option Addr → TS
def hEnds (i : Option Nat) (D : Ends) : Ends := match i with
  | none => D
  | some i => { nx := fun σ' H' => D.nx (σ'.set i none) H', rt := D.rt, bk := fun σ' H' => D.bk (σ'.set i none) H', ct := fun σ' H' => D.ct (σ'.set i none) H' }
def hSt (i : Option Nat) (a : Addr) (σ : L2.St) : L2.St := match i with
  | none => σ
  | some i => σ.set i (some (.ref a))
def wMix (K : PySem.W.Frag) (Wout : WX) (D : Ends) : List Hd → WX
  | [] => Wout
  | h :: r => fun cls d σ H => ∃ b, PySem.W.exmOne K cls h.c = some b ∧ (b = true → ∀ a, H a = none → h.ts a cls d (hEnds h.i D) (hSt h.i a σ) H) ∧ (b = false → wMix K Wout D r cls d σ H)
inductive HdMix (X : Cx) : List ExceptHandler → List Hd → Prop
  | nil : HdMix X [] []
  | cons {x : Str} {c : Value} {ts : Addr → Value → Option Addr → TS} {b₀ : Stmt} {suite : List Stmt} {np pos' : Pos} {hds : List ExceptHandler} {l : List Hd} (hc : Names X x c)
      (hsu : ∀ (a : Addr) (oe : Obj) (cls : Value) (d : Option Addr) (pn : List (Addr × Obj)), Zc cls d oe → (∃ vs, oe.data = .fields vs) → PSs (X.suite a ((a, oe) :: pn)) (b₀ :: suite) (ts a cls d)) (r : HdMix X hds l) :
      HdMix X (.ExceptHandler (some (.Name x np)) none (b₀ :: suite) pos' :: hds) (⟨c, none, ts⟩ :: l)
  | as_ {x n : Str} {i : Nat} {c : Value} {ts : Addr → Value → Option Addr → TS} {b₀ : Stmt} {suite : List Stmt} {np pos' : Pos} {hds : List ExceptHandler} {l : List Hd} (hc : Names X x c) (hi : X.N[i]? = some n) (hln : X.env.kindOf n = some .local)
      (hsu : ∀ (a : Addr) (oe : Obj) (cls : Value) (d : Option Addr) (pn : List (Addr × Obj)), Zc cls d oe → (∃ vs, oe.data = .fields vs) → PSs (X.suite a ((a, oe) :: pn)) (b₀ :: suite) (ts a cls d)) (r : HdMix X hds l) :
      HdMix X (.ExceptHandler (some (.Name x np)) (some n) (b₀ :: suite) pos' :: hds) (⟨c, some i, ts⟩ :: l)
section
variable {X : Cx} {body : List Stmt} {h₀ : ExceptHandler} {hds : List ExceptHandler} {l : List Hd} {pos : Pos} {tb : WX → TS} {Wout : WX}
theorem ps_try_mix (hs : X.stack = X.env :: X.outer) (hf : X.env.frame = some X.env.locals) (hN : X.N.Nodup) (tk : Takes X Wout)
    (hb : ∀ (W : WX) (pn : List (Addr × Obj)) (xe : Value → Shared → Prop), Takes (X.tr pn xe) W → PassesOwn (model X.prog X.w) X.A X.env xe → PSs (X.tr pn xe) body (tb W))
    (hh : HdMix X (h₀ :: hds) l) : PS X (.Try body (h₀ :: hds) [] [] pos) (fun D σ H => tb (wMix X.K Wout D l) D σ H) := by
  refine ⟨fun pins s σ H D I h => ?_⟩
  have ok := I.ok
  have hfr : X.A.frames = some (X.env :: X.outer) := by rw [ok.frames, hs]
  refine wpAny_Try_except ?_
  refine wpAny_mono ((hb (wMix X.K Wout D l) (X.pn ++ pins) (fun e s₁ => wpAny (model X.prog X.w) X.A (noteFrame e X.env) (fun _ s₂ => wpAny (model X.prog X.w) X.A (setFlight e none) (fun _ s₃ =>
    wpAny (model X.prog X.w) X.A (handleBy e X.env (h₀ :: hds)) (SP X pins D) X.xe s₃) X.xe s₂) X.xe s₁) (fun u s' xx => ?_) PassesOwn.looking).run [] s σ H D (I.toTry _) h) (fun f s1 hsp => ?_) (fun e s1 he => he)
  · obtain ⟨a, B, sI, pins', σ', H', cls, d, rfl, J', nb, up, sky, na, os, ag, w⟩ := xx
    have J : Inv X pins σ' H' sI := J'.ofTry ok
    have sky' : Sky B (X.env :: X.outer) a (Zc cls d) X.env.locals s'.heap := by rw [← hs]; exact sky
    show wpAny (model X.prog X.w) X.A (noteFrame (.ref a) X.env) _ _ _
    refine Sky.land Zc.steady hfr hf sky' fun h3 fl3 up3 => ?_
    have J3 : Inv X pins σ' H' { s' with heap := h3 } := J.landed nb fl3.1 (up.trans up3) os ag
    obtain ⟨oe3, vs3, he3, hz3, hd3⟩ := fl3.there
    have notFr : ∀ {h : Heap} {o : Obj} {vs : Array Value}, h.FunFrames B (X.env :: X.outer) → h.get? a = some o → o.data = .fields vs → a ∉ frs (X.env :: X.outer) := fun {h o vs} ff e dd hm => by
      obtain ⟨_, o', e', hnf⟩ := ff.mem hm
      rw [e] at e'; cases e'
      exact hnf _ dd
    have nfr := notFr fl3.2.2.1 he3 hd3
    have nL : a ≠ X.env.locals := fun z => nfr (List.mem_filterMap.mpr ⟨X.env, List.mem_cons_self, by rw [hf, z]⟩)
    have nF : a ∉ X.fs := fun hm => by
      obtain ⟨e, he, q⟩ := List.mem_filterMap.mp hm
      exact nfr (List.mem_filterMap.mpr ⟨e, List.mem_cons_of_mem _ he, q⟩)
    have S3 := J3.suite he3 hd3 na nL nF
    have LT : PySem.W.Looks (model X.prog X.w) h3 (typeOf (.ref a)) cls := fun A Q E s k q => wpAny_typeOf_ref (k _ _ he3) (by rw [hz3.1]; exact q)
    have test : ∀ {x : Str} {c : Value} {np : Pos} {Q : Value → Shared → Prop} {E : Value → Shared → Prop}, Names X x c → Q c { s' with heap := h3 } → wpAny (model X.prog X.w) (X.A.mark (some (.ref a))) (eval (.Name x np) X.env) Q E { s' with heap := h3 } := fun {x c np Q E} hc q => by
      obtain ⟨hg, hdbg, hm | ⟨hm, hv, hnn⟩⟩ := hc
      · exact ld_glob (X := X.suite a ((a, oe3) :: (X.pn ++ pins))) S3 hg hm q hdbg
      · exact ld_blt (X := X.suite a ((a, oe3) :: (X.pn ++ pins))) S3 hg hm hv q hnn hdbg
    have go : ∀ {hds' : List ExceptHandler} {l' : List Hd}, HdMix X hds' l' → wMix X.K Wout D l' cls d σ' H' →
        wpAny (model X.prog X.w) X.A (handleBy (.ref a) X.env hds') (SP X pins D) X.xe { s' with heap := h3 } := by
      intro hds' l' hk
      induction hk with
      | nil =>
        intro w
        refine wpAny_handleBy_nil ?_
        obtain ⟨k1, k2, k3, oe, vs, T, oT, ts', he, hz, hd, h1, hr⟩ := id fl3
        unfold PySem.passOn
        refine wpAny_bind (wpAny_field he hd h1 ?_)
        rw [if_neg (show ¬ ((Value.ref T == Value.none) = true) from by simp)]
        have fin : wpAny (model X.prog X.w) X.A (setFlight (.ref a) X.env.frame) (fun _ s4 => wpAny (model X.prog X.w) X.A (throw (.ref a) : Sem Flow) (SP X pins D) X.xe s4) X.xe { s' with heap := h3 } := by
          rw [hf]
          refine HandSPX.setFlight_upZ fl3 fun h4 hh4 up4 => wpAny_throw (tk _ _ ?_)
          exact ⟨a, B, sI, pins, σ', H', cls, d, rfl, J, nb, (up.trans up3).trans up4, .inr (.inr (by rw [hs]; exact hh4)), na, os, ag, w⟩
        first
          | exact wpAny_bind (wpAny_pure (wpAny_bind fin))
          | exact wpAny_bind fin
      | @cons x c ts b₀ suite np pos' hds2 l2 hc hsu r ih =>
        intro w
        obtain ⟨b, hb1, hyes, hno⟩ := w
        refine wpAny_handleBy_cons (codeAny_handlers_test ?_) (by intro q; cases q)
        have LM := PySem.W.exm_one (M := model X.prog X.w) (J3.kIn) LT hb1
        refine test hc (LM.here ?_)
        cases b with
        | true =>
          refine codeAny_handlers_suite ?_
          refine HandSPX.lands_againZ fl3 fun h4 fl4 up4 => ?_
          have J4 : Inv X pins σ' H' { s' with heap := h4 } := J.landed nb fl4.1 ((up.trans up3).trans up4) os ag
          obtain ⟨oe4, vs4, he4, hz4, hd4⟩ := fl4.there
          have S4 := J4.suite he4 hd4 na nL nF
          refine wpAny_mono ((hsu a oe4 cls d (X.pn ++ pins) hz4 ⟨_, hd4⟩).run [] _ _ H' _ S4 (hyes rfl a na)) (fun f s6 hsp => ?_) (fun _ _ z => False.elim z)
          cases f with
          | next =>
            obtain ⟨σ6, H6, S6, q6⟩ := hsp
            exact ⟨_, _, S6.unsuite ok, q6⟩
          | brk =>
            obtain ⟨σ6, H6, S6, q6⟩ := hsp
            exact ⟨_, _, S6.unsuite ok, q6⟩
          | cont =>
            obtain ⟨σ6, H6, S6, q6⟩ := hsp
            exact ⟨_, _, S6.unsuite ok, q6⟩
          | ret u =>
            obtain ⟨v6, σ6, H6, S6, r6, q6⟩ := hsp
            exact ⟨_, _, _, S6.unsuite ok, r6, q6⟩
        | false =>
          show wpAny _ X.A (handleBy (.ref a) X.env hds2) _ _ _
          exact ih (hno rfl)
      | @as_ x n i c ts b₀ suite np pos' hds2 l2 hc hi hln hsu r ih =>
        intro w
        obtain ⟨b, hb1, hyes, hno⟩ := w
        have hloc : Loc X.env.scope n := .inl hln
        refine wpAny_handleBy_cons (codeAny_handlers_test ?_) (by intro q; cases q)
        have LM := PySem.W.exm_one (M := model X.prog X.w) (J3.kIn) LT hb1
        refine test hc (LM.here ?_)
        cases b with
        | true =>
          refine codeAny_handlers_suite_as ?_
          refine HandSPX.lands_againZ fl3 fun h4 fl4 up4 => ?_
          have J4 : Inv X pins σ' H' { s' with heap := h4 } := J.landed nb fl4.1 ((up.trans up3).trans up4) os ag
          obtain ⟨oe4, vs4, he4, hz4, hd4⟩ := fl4.there
          have S4 := J4.suite he4 hd4 na nL nF
          refine store_ok (X := X.suite a ((a, oe4) :: (X.pn ++ pins))) (v := .ref a) S4 hN hi hloc rfl (fun s5 S5 => ?_) (.inr hln)
          refine wpAny_mono ((hsu a oe4 cls d (X.pn ++ pins) hz4 ⟨_, hd4⟩).run [] s5 _ H' _ S5 (hyes rfl a na)) (fun f s6 hsp => ?_) (fun _ _ z => False.elim z)
          have end_ : ∀ {σ6 : L2.St} {H6 : Hp} {Q : Shared → Prop}, Inv (X.suite a ((a, oe4) :: (X.pn ++ pins))) [] σ6 H6 s6 → (∀ s7, Inv X pins (σ6.set i none) H6 s7 → Q s7) →
              wpAny (model X.prog X.w) X.A (do bindName X.env n .none; unbindBehindTheSuite X.env n pos') (fun _ s7 => Q s7) X.xe s6 := fun {σ6 H6 Q} S6 hq => gone_ok (S6.unsuite ok) hN hi hln hq
          cases f with
          | next =>
            obtain ⟨σ6, H6, S6, q6⟩ := hsp
            exact end_ S6 fun s7 J7 => ⟨_, _, J7, q6⟩
          | brk =>
            obtain ⟨σ6, H6, S6, q6⟩ := hsp
            exact end_ S6 fun s7 J7 => ⟨_, _, J7, q6⟩
          | cont =>
            obtain ⟨σ6, H6, S6, q6⟩ := hsp
            exact end_ S6 fun s7 J7 => ⟨_, _, J7, q6⟩
          | ret u =>
            obtain ⟨v6, σ6, H6, S6, r6, q6⟩ := hsp
            exact end_ S6 fun s7 J7 => ⟨_, _, _, J7, r6, q6⟩
        | false =>
          show wpAny _ X.A (handleBy (.ref a) X.env hds2) _ _ _
          exact ih (hno rfl)
    exact go hh w
  · cases f with
    | next =>
      obtain ⟨σ', H', J', q⟩ := hsp
      exact wpAny_execs_nil ⟨σ', H', J'.ofTry ok, q⟩
    | brk =>
      obtain ⟨σ', H', J', q⟩ := hsp
      exact ⟨σ', H', J'.ofTry ok, q⟩
    | cont =>
      obtain ⟨σ', H', J', q⟩ := hsp
      exact ⟨σ', H', J'.ofTry ok, q⟩
    | ret u =>
      obtain ⟨v, σ', H', J', r, q⟩ := hsp
      exact ⟨v, σ', H', J'.ofTry ok, r, q⟩
end
/-! ### exceptions through the heap -/
theorem ER.ext {K : PySem.W.Frag} {cn : Cn} {r r' : Rho} {H H' : Hp} {e : MX} {cls : Value} {d : Option Addr} (h : ER K cn r H e cls d) (x : Ext r H r' H') : ER K cn r' H' e cls d := by
  obtain ⟨h1, h2 | ⟨a, vs, e1, e2, e3, e4⟩⟩ := h
  · exact ⟨h1, .inl h2⟩
  · obtain ⟨q1, q2⟩ := ext_apart x e2 e4
    exact ⟨h1, .inr ⟨a, vs, e1, q1, e3.ext x, q2⟩⟩

/-! ### methods, by the class of the receiver -/
section
variable {X : Cx} {cn : Cn} {W : WX} {pos : Pos}
/-- per class its method m -/
inductive MTab (X : Cx) (cn : Cn) (W : WX) (m : Str) : List (Str × (List MV → MM MV)) → Prop
  | nil : MTab X cn W m []
  | cons {c : Str} {f : Addr} {h : List MV → MM MV} {r : List (Str × (List MV → MM MV))} (hc : Cls X.K (cn c)) (hm : Meth X.K (cn c) m f) (k : CallM X cn W (.ref f) h) (t : MTab X cn W m r) : MTab X cn W m ((c, h) :: r)
theorem MTab.get {m : Str} {c : Str} {h : List MV → MM MV} : ∀ {l : List (Str × (List MV → MM MV))}, MTab X cn W m l → l.lookup c = some h → ∃ f, Cls X.K (cn c) ∧ Meth X.K (cn c) m f ∧ CallM X cn W (.ref f) h
  | _, .nil, e => by cases e
  | _, .cons (c := c') hc hm k t, e => by
    rw [List.lookup_cons] at e
    cases q : (c == c') with
    | true =>
      rw [q] at e
      cases e
      have := eq_of_beq q
      subst this
      exact ⟨_, hc, hm, k⟩
    | false => rw [q] at e; exact t.get e
def eMeth (mt : Str) (ms : List (Str × (List MV → MM MV))) (f : EM) (af : ME → MM (List MV)) : EM := fun e => do
  let o ← f e
  match ← (fun h => .ok (clsM h o) h : MM (Option (Str × List (Str × MV)))) with
  | some (c, fs) => (match ms.lookup c, fs.lookup mt with
    | some h, none => do
      let as ← af e
      h (o :: as)
    | _, _ => MM.fail)
  | none => MM.fail
theorem getmeth_rd {pins : List (Addr × Obj)} {σ : L2.St} {H : Hp} {s : Shared} {a C dx : Addr} {fs : List (Str × V)} {A : Around} {E : Value → Shared → Prop} {m : Str} {g : Addr} {pl : Sem Bool} {Q : Value × List Value → Shared → Prop} (I : Inv X pins σ H s) (e : Rd H a (.ins C dx fs)) (c : Cls X.K C) (k : Meth X.K C m g) (l : fs.lookup m = none)
    (h : Q (.ref g, [.ref a]) s) : wpAny (model X.prog X.w) A (getMethod (.ref a) m pl) Q E s := by
  obtain ⟨d, z, ne, ob, mA, n', r, q⟩ := e.ok I.hok
  have hn : mA m = none := RelO.none_of (by rw [← l]; exact r m)
  exact get_meth I.kIn ⟨ob, n', ne⟩ (c.get m) k.at_ k.fn hn h
variable {o a : Expr} {es : List Expr} {mt : Str} {ms : List (Str × (List MV → MM MV))} {f : EM} {af : ME → MM (List MV)} {apos : Pos} {pl : Sem Bool}
/-- what a method call reads -/
theorem meth_reads {s : L2.St} {H : Hp} {Q : VK} (T : MTab X cn W mt ms) (w : LE X.K cn W (eMeth mt ms f af) s H Q) : LE X.K cn W f s H fun v H1 => ∃ p C d vs g h, v = .ref p ∧ Rd H1 p (.ins C d vs) ∧ Cls X.K C ∧ Meth X.K C mt g ∧ vs.lookup mt = none ∧ CallM X cn W (.ref g) h ∧
    LA X.K cn W af s H1 fun as H2 => ∃ r m bs, HR X.K cn r m H2 ∧ RVs X.K cn r H2 bs (.ref p :: as) ∧ Wp (h bs m) (PostE X.K cn r H2 Q) (PostX X.K cn W s r H2) := by
  obtain ⟨r, m, e, hs, hr, w⟩ := w
  refine ⟨r, m, e, hs, hr, w.bind.mono (fun x m1 w1 r1 H1 v x1 hr1 hv => ?_) fun _ _ q => q⟩
  have w2 : Wp ((match clsM m1 x with
    | some (c, fs) => (match ms.lookup c, fs.lookup mt with
      | some h, none => do
        let as ← af e
        h (x :: as)
      | _, _ => MM.fail)
    | none => MM.fail : MM MV) m1) (PostE X.K cn r H Q) (PostX X.K cn W s r H) := w1
  cases q : clsM m1 x with
  | none => rw [q] at w2; exact w2.elim
  | some cf =>
    obtain ⟨c, fs⟩ := cf
    rw [q] at w2
    simp only at w2
    cases q1 : ms.lookup c with
    | none => rw [q1] at w2; exact w2.elim
    | some h =>
      cases q2 : fs.lookup mt with
      | some _ => rw [q1, q2] at w2; exact w2.elim
      | none =>
        rw [q1, q2] at w2
        simp only at w2
        obtain ⟨p, d, vs, rfl, hrd, hfs⟩ := cls_at hr1 hv q
        obtain ⟨g, k1, k2, k3⟩ := T.get q1
        refine ⟨p, _, d, vs, g, h, rfl, hrd, k1, k2, hfs.none_ q2, k3, r1, m1, e, hs.ext x1, hr1, w2.bind.mono (fun as m2 w3 r2 H2 us x2 hr2 hus => ?_) fun _ _ q => PostX.ext q x1⟩
        exact ⟨r2, m2, x :: as, hr2, .cons (hv.ext x2) hus, w3.mono (fun _ _ q => PostE.ext q (x1.trans x2)) fun _ _ q => PostX.ext q (x1.trans x2)⟩
theorem e_meth (T : MTab X cn W mt ms) (ho : JE X cn W o f) (ha : JA X cn W (a :: es) af)
    (ht : eval (.Call (.Attribute o mt apos) (a :: es) [] pos) X.env = (do
      let ov ← eval o X.env
      standAt apos.atName
      let (f, first) ← holding [ov] (getMethod ov mt pl)
      callWith pos f first (backTo pos (starEach (a :: es) X.env)) (backToKw pos (keywordEach [] X.env))) := by rfl)
    (hst : starEach (a :: es) X.env = (false, eval a X.env) :: starEach es X.env := by rfl) (hpl : (backTo pos (starEach es X.env)).any (·.1) = false := by rfl) :
    JE X cn W (.Call (.Attribute o mt apos) (a :: es) [] pos) (eMeth mt ms f af) := by
  refine ⟨fun pins s σ H Q I w => ?_⟩
  refine PySem.W.methodCall_KW (pl := pl) (thn (ho.run pins s σ H _ I (meth_reads T w)) fun u s1 ⟨x, H1, I1, rx, p, C, d, vs, g, h, ex, hrd, k1, k2, l, k3, q⟩ => ?_) ht
  subst ex
  obtain rfl : u = Value.ref p := rx
  refine getmeth_rd I1 hrd k1 k2 l ?_
  refine PySem.W.callWith_K (first := [.ref p]) (h₀ := X.base) I.ok.mod.kin k2.kp (thn (ha.run pos pins s1 σ H1 _ I1 q) fun us s2 ⟨as, H2, I2, r, q2⟩ => ⟨I2.kIn, ?_⟩) hst hpl
  exact k3 pins s2 σ H2 (.ref p :: us) (.ref p :: as) Q I2 (.cons rfl r) q2
theorem e_meth0 (T : MTab X cn W mt ms) (ho : JE X cn W o f)
    (ht : eval (.Call (.Attribute o mt apos) [] [] pos) X.env = (do
      let ov ← eval o X.env
      standAt apos.atName
      let (f, first) ← holding [ov] (getMethod ov mt pl)
      callWith pos f first (backTo pos (starEach [] X.env)) (backToKw pos (keywordEach [] X.env))) := by rfl) :
    JE X cn W (.Call (.Attribute o mt apos) [] [] pos) (eMeth mt ms f aNil) := by
  refine ⟨fun pins s σ H Q I w => ?_⟩
  refine PySem.W.methodCall_KW (pl := pl) (thn (ho.run pins s σ H _ I (meth_reads T w)) fun u s1 ⟨x, H1, I1, rx, p, C, d, vs, g, h, ex, hrd, k1, k2, l, k3, q⟩ => ?_) ht
  subst ex
  obtain rfl : u = Value.ref p := rx
  refine getmeth_rd I1 hrd k1 k2 l ?_
  obtain ⟨r, m, e, hs, hr, w2⟩ := q
  exact PySem.W.callWith_K0 (first := [.ref p]) I1.kIn k2.kp (k3 pins s1 σ H1 [.ref p] [.ref p] Q I1 (.cons rfl .nil) (w2 r H1 [] .refl hr .nil))
/-! ### keyword calls -/
/-- values of keywords -/
abbrev JKw (X : Cx) (cn : Cn) (W : WX) (ks : List Keyword) (f : ME → MM (List MV)) : Prop := PK X ks (LA X.K cn W f)
def eCallK (h : List MV → List MV → MM MV) (af kf : ME → MM (List MV)) : EM := fun e => do
  let as ← af e
  let bs ← kf e
  h as bs
variable {x : Str} {p : Pos} {g : Addr} {ks : List Str} {kws : List Keyword} {hk : List MV → List MV → MM MV} {kf : ME → MM (List MV)}
theorem e_callK (c : CallMK X cn W (.ref g) ks hk) (hm : X.mg x = some (.ref g)) (hkp : PySem.W.keepIn X.K (.ref g) = true) (ha : JA X cn W (a :: es) af) (hkw : JKw X cn W kws kf) (hg : Gl X x := by rfl)
    (hall : (backToKw pos (keywordEach kws X.env)).all (·.1.isSome) = true := by rfl) (hks : (backToKw pos (keywordEach kws X.env)).filterMap (·.1) = ks := by rfl) (hlen : (backToKw pos (keywordEach kws X.env)).length = ks.length := by rfl)
    (hdb : (x == ("__debug__" : Str)) = false := by decide) (he : starEach (a :: es) X.env = (false, eval a X.env) :: starEach es X.env := by rfl)
    (hpl : ((backTo pos (starEach (a :: es) X.env)).any (·.1) || (backToKw pos (keywordEach kws X.env)).any (·.1.isNone)) = false := by rfl)
    (hkl : ∀ e m bs m', kf e m = .ok bs m' → bs.length = ks.length) :
    JE X cn W (.Call (.Name x p) (a :: es) kws pos) (eCallK hk af kf) := by
  refine ⟨fun pins s σ H Q I w => ?_⟩
  obtain ⟨r, m, e, hs, hr, w⟩ := w
  refine wpAny_Call_Name_kw (ld_glob I hg hm ?_ hdb)
  refine PySem.W.callWith_KW (h₀ := X.base) I.ok.mod.kin hkp hall (thn (ha.run pos pins s σ H (fun vs H1 => ∃ r1 m1 as, Ext r H r1 H1 ∧ HR X.K cn r1 m1 H1 ∧ RVs X.K cn r1 H1 as vs ∧ Wp ((do let bs ← kf e; hk as bs : MM MV) m1) (PostE X.K cn r H Q) (PostX X.K cn W σ r H)) I ⟨r, m, e, hs, hr, w.bind.mono (fun as m1 w1 r1 H1 vs x1 hr1 hv => ⟨r1, m1, as, x1, hr1, hv, w1⟩) fun _ _ q => q⟩) fun us s1 ⟨vs, H1, I1, rv, r1, m1, as, x1, hr1, hv, w1⟩ => ?_) hpl he
  refine thn (hkw.run pos pins s1 σ H1 (fun zs H2 => ∃ r2 m2 bs, Ext r1 H1 r2 H2 ∧ HR X.K cn r2 m2 H2 ∧ RVs X.K cn r2 H2 bs zs ∧ bs.length = ks.length ∧ Wp (hk as bs m2) (PostE X.K cn r H Q) (PostX X.K cn W σ r H)) I1 ⟨r1, m1, e, hs.ext x1, hr1, ?_⟩) fun ws s2 ⟨zs, H2, I2, rz, r2, m2, bs, x2, hr2, hz, hl, w2⟩ => ⟨I2.kIn, ?_⟩
  · have w2 := w1.bind
    cases q : kf e m1 with
    | ok bs m2 => rw [q] at w2; exact fun r2 H2 zs x2 hr2 hz => ⟨r2, m2, bs, x2, hr2, hz, hkl _ _ _ _ q, w2⟩
    | exc y m2 => rw [q] at w2; exact PostX.ext w2 x1
    | bad => rw [q] at w2; exact w2
  · rw [hks]
    have hw : ws.length = ks.length := by rw [← rz.length, ← hz.length]; exact hl
    exact c pins s2 σ H2 us ws vs zs Q I2 rv rz hw ⟨r2, m2, as, bs, hr2, hv.ext x2, hz, w2.mono (fun _ _ q => PostE.ext q (x1.trans x2)) fun _ _ q => PostX.ext q (x1.trans x2)⟩
/-! ### isinstance -/
inductive Tag where
  | b (t : String) | o (c : Str)
  deriving DecidableEq
def tagM (m : MH) : MV → Option Tag
  | .non => some (.b "NoneType") | .bl _ => some (.b "bool") | .int _ => some (.b "int") | .str _ => some (.b "str") | .tup _ => some (.b "tuple") | .con _ => some (.b "list") | .cdc _ => some (.b "dict")
  | .obj c _ => some (.o c)
  | .ref n => (match m[n]? with
    | some (.lst _) => some (.b "list")
    | some (.dct _) => some (.b "dict")
    | some (.ins c _) => some (.o c)
    | _ => none)
def tagV (cn : Cn) : Tag → Value
  | .b t => .type t
  | .o c => .ref (cn c)
/-- what isinstance asks of an own class of which it may meet an instance -/
structure InsK (K : PySem.W.Frag) (C : Addr) : Prop where
  cl : Cls K C
  ha : PySem.W.findIn K (.ref C) "__class__" = some (some (.builtin "object.__class__"))
  hn : PySem.W.specialIn K (.builtin "object.__class__") "__get__" = some (some (.builtin "getset_descriptor.__get__"))
  htk : PySem.W.takesIn K (.builtin "object.__class__") = some true
  hm : PySem.W.mroIn K C (.type "object") = some true
/-- the answers, by the value's type -/
structure IsTab (K : PySem.W.Frag) (cn : Cn) (u : Value) (tb : List (Tag × Bool)) : Prop where
  kit : ∀ t b, tb.lookup t = some b → PySem.W.kitOne K (tagV cn t) u = some b
  ins : ∀ c b, tb.lookup (.o c) = some b → InsK K (cn c)
def isO (tb : List (Tag × Bool)) (a : MV) (m : MH) : Option Bool := (tagM m a).bind fun t => tb.lookup t
theorem kit_at {K : PySem.W.Frag} {pins : List (Addr × Obj)} {σ : L2.St} {H : Hp} {s : Shared} {r : Rho} {m : MH} {a : MV} {v : V} {w : Value} {t : Tag} (eK : K = X.K) (I : Inv X pins σ H s) (hr : HR K cn r m H) (hv : RV K cn r H a v) (rx : RelV v w) (e : tagM m a = some t) (hi : ∀ c, t = .o c → InsK K (cn c)) :
    ∃ P : Heap → Prop, PySem.W.KitX K w (tagV cn t) P ∧ P s.heap ∧ w ≠ .builtin "__main__.__loader__#opaque" := by
  subst eK
  unfold tagM at e
  cases hv with
  | non => cases e; exact kit_of I rx (.base .non)
  | bl b => cases e; exact kit_of I rx (.base (.bl b))
  | int i => cases e; exact kit_of I rx (.base (.int i))
  | str z => cases e; exact kit_of I rx (.base (.str z))
  | tup h t =>
    cases e
    rcases h with (h | ⟨o, h⟩) | ⟨o, its, n, h, hc, _⟩
    · exact kit_of I rx (.base (.tup h))
    · exact kit_of I rx (.fTuple h)
    · exact kit_of I rx (.kTuple h hc)
  | con h t => cases e; obtain ⟨o, h⟩ := h; exact kit_of I rx (.base (.frz h))
  | cdc h t => cases e; exact kit_of I rx (.fDict h)
  | obj h t =>
    cases e
    rename_i p d c ob vs fs
    have k := hi c rfl
    cases (show w = Value.ref _ from rx)
    obtain ⟨_, dd, z, ne, ob', mA, n', r', q⟩ := I.hok _ _ h
    obtain ⟨od, J, _⟩ := (show ObjM s.heap p d (cn c) mA from ⟨ob', n', ne⟩).look
    exact ⟨_, PySem.W.kitx_own (k.cl.get _) k.cl.hd k.ha k.hn k.htk k.hm, J, fun z => nomatch z⟩
  | ref h =>
    obtain ⟨o, h1, h2⟩ := hr.get h
    simp only [h1] at e
    cases h2 with
    | lst h3 t => cases e; exact kit_of I rx (.base (.lst h3))
    | dct h3 t => cases e; exact kit_of I rx (.base (.dK h3))
    | ins h3 t =>
      cases e
      have k := hi _ rfl
      exact kit_of I rx (.base (.ins h3 k.cl k.ha k.hn k.htk k.hm))
    | ded h3 => cases e
def eIsi (tb : List (Tag × Bool)) (f : EM) : EM := fun e => do
  let a ← f e
  fun m => match isO tb a m with
    | some b => .ok (.bl b) m
    | none => .bad
theorem e_isi {c : Expr} {v : V} {u : Value} {tb : List (Tag × Bool)} (ha : JE X cn W a f) (hc : PE X c (tC v)) (k : ClsV v u) (T : IsTab X.K cn u tb) (hm : X.mg "isinstance" = none) (hg : Gl X "isinstance" := by rfl)
    (he : starEach (a :: [c]) X.env = (false, eval a X.env) :: starEach [c] X.env := by rfl) (he2 : starEach (c :: []) X.env = (false, eval c X.env) :: starEach [] X.env := by rfl) (hpl : (backTo pos (starEach [c] X.env)).any (·.1) = false := by rfl) :
    JE X cn W (.Call (.Name "isinstance" p) [a, c] [] pos) (eIsi tb f) := by
  have hv : bootBuiltins "isinstance" = some (.builtin "isinstance") := by decide +kernel
  have hC : CallR X (.builtin "isinstance") (fun xs H Q => ∃ r m b y z, HR X.K cn r m H ∧ RV X.K cn r H y z ∧ xs = [z, v] ∧ isO tb y m = some b ∧ Q (.bl b) H) := by
    intro pins s σ H xs us Q I r ⟨r0, m, b, y, z, h1, h2, h3, h4, q⟩
    subst h3
    obtain ⟨u1, u2, rfl, r1, r2⟩ := vals2 r
    have e2 := k.eq r2
    subst e2
    obtain ⟨t, e1, e2⟩ := Option.bind_eq_some_iff.mp h4
    obtain ⟨P, Z, p, hx⟩ := kit_at rfl I h1 h2 r1 e1 fun c ec => by subst ec; exact T.ins c b e2
    exact PySem.W.kia_one Z I.kIn p (T.kit t b e2) hx fun tk => ⟨.bl b, H, I.tok tk, rfl, q⟩
  refine pe_imp (pe_callB hC hg hm hv (pa_cons ha (pa_cons hc pa_nil he2) he) (he := he) (hpl := hpl)) fun s H Q ⟨r, m, e, hs, hr, w⟩ => ?_
  refine ⟨r, m, e, hs, hr, w.bind.mono (fun y m1 w1 r1 H1 z x1 hr1 hz => ?_) fun _ _ q => q⟩
  have w2 : Wp ((match isO tb y m1 with
    | some b => .ok (.bl b) m1
    | none => .bad : Res MV)) (PostE X.K cn r H Q) (PostX X.K cn W s r H) := w1
  cases q : isO tb y m1 with
  | none => rw [q] at w2; exact w2.elim
  | some b =>
    rw [q] at w2
    exact ⟨r1, m1, b, y, z, hr1, hz, rfl, q, w2 r1 H1 _ x1 hr1 (.bl b)⟩
/-! ### repr of data -/
def reprO : OPn := fun as m => match as with
  | [a] => (match datS m a with
    | some d => if d.showable = true ∧ d.shown.length ≤ sizeLine then some (.str d.shown, m) else none
    | none => none)
  | _ => none
theorem call_reprM (hg : X.A.guards = some []) (hu : X.A.units + 66 < cLine) : CallR X (.builtin "repr") (RMn X.K cn reprO) := by
  intro pins s σ H xs us Q I rs ⟨r, m, as, c, m', hr, ha, e, q⟩
  unfold reprO at e
  split at e
  · split at e
    · rename_i d e1
      split at e
      · rename_i hz
        cases e
        cases ha with
        | cons h1 tn =>
          cases tn
          obtain ⟨k1, k2⟩ := datS_dp hr h1 e1
          obtain ⟨u, rfl, ru⟩ := rs.one
          obtain ⟨as, rd⟩ := Dp.reads I d _ u k1 ru
          have hnd := PyData.noDict_hsm (as := as) (PyData.hasDict_of_canLay _ (SeqAt.canLay_of_shaped k2))
          have hd := SeqAt.depth_of_shaped k2
          have fin : ∀ {h' : Heap} {t tk : Nat}, (∀ b o, s.heap.get? b = some o → h'.get? b = some o) → EP X pins σ Q (.str d.shown t) { s with heap := h', toks := tk } := fun hk => ⟨.str d.shown, H, I.kept hk, ⟨_, rfl⟩, q r H _ .refl hr (.str _)⟩
          cases rd with
          | none => exact P.repr_of_none (by have := fin (h' := s.heap) (t := s.toks) (tk := s.toks + 1) fun _ _ e => e; simpa only [PyData.shown] using this)
          | bool b => exact P.repr_of_bool (by have := fin (h' := s.heap) (t := s.toks) (tk := s.toks + 1) fun _ _ e => e; simpa only [PyData.shown] using this)
          | int i t => exact P.repr_of_int (by simpa [PyData.showable] using hz.1) (by have := fin (h' := s.heap) (t := s.toks) (tk := s.toks + 1) fun _ _ e => e; simpa only [PyData.shown] using this)
          | str z t => exact P.repr_of_str (by have := fin (h' := s.heap) (t := s.toks) (tk := s.toks + 1) fun _ _ e => e; simpa only [PyData.shown] using this) (by simpa only [PyData.shown] using hz.2)
          | list g1 g2 g3 g4 => exact repr_of_reads' (.list g1 g2 g3 g4) hz.1 hnd hg (by omega) (fun _ _ e => e) (fun h' u tk hk => fin hk) hz.2
          | tuple g1 g2 g3 g4 => exact repr_of_reads' (.tuple g1 g2 g3 g4) hz.1 hnd hg (by omega) (fun _ _ e => e) (fun h' u tk hk => fin hk) hz.2
          | dict g1 g2 g3 g4 g5 => exact repr_of_reads' (.dict g1 g2 g3 g4 g5) hz.1 hnd hg (by omega) (fun _ _ e => e) (fun h' u tk hk => fin hk) hz.2
      · cases e
    · cases e
  · cases e
end
end Mi
end

section
set_option Elab.async false
set_option linter.all false
set_option maxRecDepth 100000
set_option maxHeartbeats 4000000
namespace Mi
open PySem PySem.Spec PyProof.Rows
open PySem.W

/-! ### an own exception: def __init__(self, p): super().__init__('..'); self.f = p -/
/-- KE.KSuper's ks_node, by what it asks of the top alone (its steps) -/
theorem node_of {prog : Program} {w : World} {A : Around} {E : Value → Shared → Prop} {s : Shared} {h₀ : Heap} {L : Addr} {m mg mb : Str → Option Value} {news : List (Addr × Obj)} {K : Frag} {x C D f cc cda : Addr} {ox : Obj} {odx : Option Obj}
    {body : List Stmt} {q : Str} {scope : Scope} {p0 p1 : Pos} {attr : Str} {whole : Sem Value} {fd : FuncData} {ar : Arg} {vs : Array Value} {file : Str} {tf : Tok} {oc ccl cl : Value} {od cdd cld : Option Addr} {osl ccs csl : Array (Option Value)} {cdD : ClassData} {Q : Value → Shared → Prop}
    (F : Fr h₀ L s.heap m) (X₀ : K.In h₀) (N : News h₀ L s.heap news) (Tg : h₀.Ns mainGlobals mg) (Tb : h₀.Ns builtinsNs mb) (Tbl : ∀ x : Str, x ≠ "__name__" → mb x = bootBuiltins x)
    (hf : K.lookup f = some ⟨oc, od, .func fd, osl⟩) (hp : (fd.params.posonlyargs ++ fd.params.args).head? = some ar) (hv : m ar.arg = some (.ref x)) (I : InstAt s.heap x ox C odx)
    (hcode : K.lookup cda = some ⟨ccl, cdd, .fields vs, ccs⟩) (hvs : vs[2]? = some (.str file tf)) (hfile : ((prog.main.file : Str) == file) = true)
    (hcell : K.lookup cc = some ⟨cl, cld, .cell (some (.ref D)), csl⟩) (hD : clsIn K D = some cdD) (hsub : mroIn K C (.ref D) = some true) (hsuper : mg "super" = none)
    (hat : (attr == ("__class__" : Str)) = false) (hks : scope.names.lookup ("super" : Str) = some .globalImplicit) (hkc : scope.names.lookup ("__class__" : Str) = some .free) (hka : scope.names.lookup ar.arg = some .local) (hk : scope.kind = .function)
    (htop : (prog.main.scope.names.lookup ("super" : Str)).isSome = false) (hboot : bootBuiltins "super" = some (.type "super"))
    (h : ∀ so h', Fr h₀ L h' m → News h₀ L h' ((so, ks_superObj D x C) :: news) → (∀ p ∈ news, p.1 < so) → Q (.ref so) { s with heap := h' }) :
    _root_.PySem.wpAt (model prog w) A (.func body (ksEnv q scope L f (.ref cda) cc)) (attributeBase (.Call (.Name "super" p0) [] [] p1) attr (ksEnv q scope L f (.ref cda) cc) whole) Q E s := by
  have X : K.In s.heap := X₀.keeps F.keep
  obtain ⟨hh, g, d, t, os⟩ := s
  obtain ⟨oD, hD1, hD2⟩ : ∃ oD, hh.get? D = some oD ∧ oD.data = .cls cdD := by
    unfold clsIn at hD
    split at hD
    · rename_i c d cd' sl ho
      cases hD
      exact ⟨_, X _ _ ho, rfl⟩
    · cases hD
  refine ks_wpAt_super_base (env := ksEnv q scope L f (.ref cda) cc) hks hkc hat rfl (X _ _ hf) rfl hp rfl (X _ _ hcode) rfl hvs hfile htop ?_
  refine ks_loadName_global hk hks (Calls.loadGlobal_builtin (env := ksEnv q scope L f (.ref cda) cc) (Tg.keeps F.keep) hsuper (Tb.keeps F.keep) ((Tbl _ (by decide +kernel)).trans hboot) ⟨rfl, ?_⟩)
  refine wpAny_loadName_free hk hkc rfl ⟨_, X _ _ hcell, rfl⟩ ?_
  refine wpAny_loadName_local hk hka F.ns hv ?_
  refine ks_wpAny_isType_cls hD1 hD2 ⟨rfl, ?_⟩
  refine ks_wpAny_call_super hD1 hD2 I.at_ I.cls (fun c e => ?_) (looks_mroIn X hsub) (fun h' e k => ?_)
  · have := I.no
    unfold PySem.W.notCls at this
    rw [e] at this
    exact Bool.noConfusion this
  · obtain ⟨F', N', l'⟩ := ks_newsPush (s := ⟨hh, g, d, t, os⟩) F N rfl e k
    exact h _ _ F' N' l'
def xA (p : Str) (p1 p2 : Pos) : Arguments := { posonlyargs := [], args := [{ arg := "self", annotation := none, pos := p1 }, { arg := p, annotation := none, pos := p2 }], vararg := none, kwonlyargs := [], kw_defaults := [], kwarg := none, defaults := [] }
def xB (msg f p : Str) (a1 a2 a3 a4 a5 a6 b1 b2 b3 b4 : Pos) : List Stmt := [.Expr (.Call (.Attribute (.Call (.Name "super" a1) [] [] a2) "__init__" a3) [.Constant (.str msg) 0 a4] [] a5) a6, .Assign [.Attribute (.Name "self" b1) f b2] (.Name p b3) b4]
def xS (p : Str) : Scope := { kind := .function, names := [(PySem.Str.ofString "self", .local), (p, .local), (PySem.Str.ofString "__class__", .free), (PySem.Str.ofString "super", .globalImplicit)], isGenerator := false, isCoroutine := false, more := [] }
/-- the call's node, as the model runs it (by rfl, the positions known) -/
def XNod (qual msg f p : Str) (p1 p2 a1 a2 a3 a4 a5 a6 b1 b2 b3 b4 : Pos) : Prop := ∃ pl : Sem Bool, ∀ (doc pm : Value) (an : Option Addr) (cdv ct : Value) (cc L a : Addr),
  eval (.Call (.Attribute (.Call (.Name "super" a1) [] [] a2) "__init__" a3) [.Constant (.str msg) 0 a4] [] a5) (callEnv (ksFn "__init__" qual (xA p p1 p2) (xB msg f p a1 a2 a3 a4 a5 a6 b1 b2 b3 b4) (xS p) .none .none doc pm an cdv ct cc) L a) = (do
      let ov ← attributeBase (.Call (.Name "super" a1) [] [] a2) "__init__" (callEnv (ksFn "__init__" qual (xA p p1 p2) (xB msg f p a1 a2 a3 a4 a5 a6 b1 b2 b3 b4) (xS p) .none .none doc pm an cdv ct cc) L a) (eval (.Call (.Name "super" a1) [] [] a2) (callEnv (ksFn "__init__" qual (xA p p1 p2) (xB msg f p a1 a2 a3 a4 a5 a6 b1 b2 b3 b4) (xS p) .none .none doc pm an cdv ct cc) L a))
      standAt a3.atName
      let (g, first) ← holding [ov] (getMethod ov "__init__" pl)
      callWith a5 g first (backTo a5 (starEach [.Constant (.str msg) 0 a4] (callEnv (ksFn "__init__" qual (xA p p1 p2) (xB msg f p a1 a2 a3 a4 a5 a6 b1 b2 b3 b4) (xS p) .none .none doc pm an cdv ct cc) L a))) [])
/-- what the written part says of the class at C: its __init__ at fI (parameter p, field f) -/
structure XTxt (prog : Program) (K : Frag) (C fI : Addr) (f p : Str) : Prop where
  cls : ∃ (B newId i : String) (bmB : List Value), KxsFacts B i ∧ ExcBaseFacts B newId i bmB ∧ StoreFacts B bmB "object.__setattr__" "object" ∧ excInitIn K C bmB newId = true ∧ excOver K C bmB = true ∧ ks_superIn K C C "__init__" = some (some (.builtin i)) ∧ subIn K (.ref C) (.type B) = some true
  sa : findIn K (.ref C) "__setattr__" = some (some (.builtin "object.__setattr__"))
  iC : findIn K (.ref C) "__init__" = some (some (.ref fI))
  fnI : isFn K (.ref fI) = true
  noF : findIn K (.ref C) f = some none
  hd : hasDictIn K C = true
  self_ : mroIn K C (.ref C) = some true
  kp : keepIn K (.ref C) = true
  exC : subIn K (.ref C) (.type "BaseException") = some true
  tyC : typeIn K (.ref C) = some (.type "type")
  op : nsIn K cStatics "thirdparty.any" = some none
  psf : (p == ("self" : Str)) = false
  psu : (("super" : Str) == p) = false
  pdb : (p == ("__debug__" : Str)) = false
  pcl : (("__class__" : Str) == p) = false
  bnd : ∀ (qual : Str) (p1 p2 : Pos) (body : List Stmt) (doc pm : Value) (an : Option Addr) (cdv ct : Value) (cc x : Addr) (v : Value), bindArgs (ksFn "__init__" qual (xA p p1 p2) body (xS p) .none .none doc pm an cdv ct cc) ⟨[.ref x, v], []⟩ = pure [(("self" : Str), .ref x), (p, v)]
  fn : ∃ (qual msg : Str) (oc : Value) (od : Option Addr) (doc pm : Value) (an : Option Addr) (cda cc : Addr) (ct : Value) (osl : Array (Option Value)) (p1 p2 a1 a2 a3 a4 a5 a6 b1 b2 b3 b4 : Pos)
      (ccl cl : Value) (cdd cld : Option Addr) (vs : Array Value) (ccs csl : Array (Option Value)) (file : Str) (tf : Tok),
    K.lookup fI = some ⟨oc, od, .func (ksFn "__init__" qual (xA p p1 p2) (xB msg f p a1 a2 a3 a4 a5 a6 b1 b2 b3 b4) (xS p) .none .none doc pm an (.ref cda) ct cc), osl⟩ ∧ codeIn K (.ref cda) qual = true ∧
    K.lookup cda = some ⟨ccl, cdd, .fields vs, ccs⟩ ∧ vs[2]? = some (.str file tf) ∧ ((prog.main.file : Str) == file) = true ∧ K.lookup cc = some ⟨cl, cld, .cell (some (.ref C)), csl⟩ ∧ XNod qual msg f p p1 p2 a1 a2 a3 a4 a5 a6 b1 b2 b3 b4
/-- what __init__ leaves of a fresh exception at x -/
structure XEnd (h h' : Heap) (x C dx t1 : Addr) (f : Str) (v : Value) : Prop where
  keep : ∀ b o, b ≠ x → h.get? b = some o → h'.get? b = some o
  obj : h'.get? x = some { cls := .ref C, dict := some dx, data := .fields #[.ref t1, .none, .none, .none, .bool false, .none] }
  dbig : h.objs.size ≤ dx
  ns : h'.Ns1 dx (fun y => if y = f then some v else none)
theorem lookup_two {p : Str} {a b : Value} (h : (p == ("self" : Str)) = false) : ([(("self" : Str), a), (p, b)].reverse.lookup ("self" : Str) = some a) ∧ [(("self" : Str), a), (p, b)].reverse.lookup p = some b := by
  have h2 : (("self" : Str) == p) = false := by
    have := beq_eq_false_iff_ne.mp h
    exact beq_eq_false_iff_ne.mpr fun z => this z.symm
  constructor
  · show List.lookup _ [(p, b), (("self" : Str), a)] = _
    simp [List.lookup, h2]
  · show List.lookup _ [(p, b), (("self" : Str), a)] = _
    simp [List.lookup]
section
open Builtin Builtin.ObjectAttr
variable {prog : Program} {w : World} {A : Around} {R : Result → Shared → Prop} {hp : Heap} {g : Array GenState} {d : Drawn} {t : Nat} {os : OsState} {B : String} {bmB : List Value} {K : Frag}
/-- the first store on an own exception (KE.KExcInit's osa_openX, then HandS.ExcSuper's steps) -/
theorem osa_newX {name : Str} {tk : Tok} {v : Value} {x C : Addr} {fv : Array Value} {cd : ClassData} (SF : StoreFacts B bmB "object.__setattr__" "object") (X : K.In hp) (hx : hp.get? x = some { cls := .ref C, data := .fields fv }) (hcd : clsIn K C = some cd) (qO : excOver K C bmB = true) (ht : takerIn K C name = some none) (hh : cd.hasDict = true)
    (hq : ∀ h' tk' dx, (∀ b o, b ≠ x → hp.get? b = some o → h'.get? b = some o) → hp.objs.size ≤ dx → dx ≠ x → h'.get? x = some { cls := .ref C, dict := some dx, data := .fields fv } →
      h'.Ns1 dx (fun y => if y = name then some v else none) → R (.ok (.ret .none)) ⟨h', g, d, tk', os⟩) :
    codeAny (model prog w) A (.call (.builtin "object.__setattr__") ⟨[.ref x, .str name tk, v], []⟩) R ⟨hp, g, d, t, os⟩ := by
  have hxs : x ≠ hp.objs.size := Nat.ne_of_lt (Heap.lt_size hx)
  have hcls : PySem.W.Looks (model prog w) hp (classData C) cd := PySem.W.looks_clsIn X hcd
  refine osa_openX (od := none) SF X ⟨hx, rfl, rfl, trivial⟩ qO ht fun b => ?_
  obtain ⟨nm, bs, mro, ns, qn, hd, sn, sb, ab, col, del⟩ := cd
  dsimp only at hh
  subst hh
  show wpAny _ _ (storeInOwnDict (.ref x) (.ref C) (.str name tk) name v b) _ _ _
  unfold storeInOwnDict ownDictForStores
  repeat (first | with_reducible refine HandSPX.store_in_new ?_ ?_ | with_reducible refine wpAny_loadPart_at hx ?_ | with_reducible refine hcls.at ?_ | wp_step)
  · exact ⟨_, #[], _, (Heap.get?_update_ne _ _ _ _ hxs.symm).trans (Heap.get?_push_at rfl rfl), rfl, fun e he => absurd he (by simp), fun _ => rfl⟩
  · intro h' tk' hn' hs
    have hx₁ : (hp.push { cls := .type "dict", data := .dict #[] }).get? x = some { cls := .ref C, data := .fields fv } := Heap.get?_push_of_some _ hx
    refine hq h' tk' hp.objs.size (fun b o hb ho => ?_) (Nat.le_refl _) hxs.symm ?_ hn'
    · exact (hs.2 b (Nat.ne_of_lt (Heap.lt_size ho))).trans ((Heap.get?_update_ne _ _ _ _ hb).trans (Heap.get?_push_of_some _ ho))
    · exact (hs.2 x hxs).trans (Heap.get?_update_self _ hx₁ rfl)
end
theorem exc_init_run {prog : Program} {w : World} {A : Around} {R : Result → Shared → Prop} {s : Shared} {K : Frag} {C fI : Addr} {f p : Str} {mg mb : Str → Option Value} (T : XTxt prog K C fI f p) {x t0 : Addr} {v : Value} (X : K.In s.heap) (hlim : s.heap.NoLimit)
    (Tg : s.heap.Ns mainGlobals mg) (Tb : s.heap.Ns builtinsNs mb) (Tbl : ∀ x : Str, x ≠ "__name__" → mb x = bootBuiltins x) (hsuper : mg "super" = none) (htop : (prog.main.scope.names.lookup ("super" : Str)).isSome = false)
    (hx : s.heap.get? x = some (excObj C t0 none .none)) (hnx : K.lookup x = none) (hng : x ≠ mainGlobals) (hnb : x ≠ builtinsNs) (hroom : A.depth < recursionLimit)
    (hq : ∀ h' tk dx t1, XEnd s.heap h' x C dx t1 f v → R (.ok (.ret .none)) { s with heap := h', toks := tk }) :
    codeAny (model prog w) A (.call (.ref fI) ⟨[.ref x, v], []⟩) R s := by
  obtain ⟨qual, msg, oc, od, doc, pm, an, cda, cc, ct, osl, p1, p2, a1, a2, a3, a4, a5, a6, b1, b2, b3, b4, ccl, cl, cdd, cld, vs, ccs, csl, file, tf, ho, hcd, hcode, hvs, hfile, hcell, pl, hnod⟩ := T.fn
  obtain ⟨B, newId, i, bmB, KF, FB, SF, qI, qO, hsi, hB⟩ := T.cls
  obtain ⟨cdD, hcl⟩ : ∃ cdD, clsIn K C = some cdD := by
    unfold excOver at qO
    cases z : clsIn K C with
    | none => rw [z] at qO; cases qO
    | some cd => exact ⟨cd, rfl⟩
  have hloc : ∀ y ∈ [(("self" : Str), Value.ref x), (p, v)], (xS p).names.lookup y.1 = some .local := fun y hy => by
    rcases List.mem_cons.mp hy with rfl | hy
    · rfl
    · rcases List.mem_cons.mp hy with rfl | hy
      · show List.lookup p ((PySem.Str.ofString "self", NameKind.local) :: (p, NameKind.local) :: _) = _
        rw [List.lookup_cons, T.psf, List.lookup_cons, beq_self_eq_true]
      · cases hy
  refine ks_codeAny_call_defAt (fd := ksFn "__init__" qual (xA p p1 p2) (xB msg f p a1 a2 a3 a4 a5 a6 b1 b2 b3 b4) (xS p) .none .none doc pm an (.ref cda) ct cc) (body := xB msg f p a1 a2 a3 a4 a5 a6 b1 b2 b3 b4) (binds := [(("self" : Str), .ref x), (p, v)])
    hroom (X _ _ ho) rfl hlim (codeRec_of X hcd) rfl (BindsTo.of_eq (T.bnd _ _ _ _ _ _ _ _ _ _ _ _)) ?_ hloc (fun h₁ hns hk₁ => ?_) rfl rfl rfl
  · intro y hy
    have hy' : y ∈ [(PySem.Str.ofString "self", NameKind.local), (p, .local), (PySem.Str.ofString "__class__", .free), (PySem.Str.ofString "super", .globalImplicit)] := hy
    simp only [List.mem_cons, List.not_mem_nil, or_false] at hy'
    rcases hy' with rfl | rfl | rfl | rfl <;> simp
  -- the ground: all but x
  have hlt := Heap.lt_size hx
  have hg0 : ∀ {b : Addr} {o : Obj}, (hideAll s.heap [x]).get? b = some o → s.heap.get? b = some o := fun e => of_hideAll _ e
  have hgK : ∀ {b : Addr} {o : Obj}, s.heap.get? b = some o → b ≠ x → (hideAll s.heap [x]).get? b = some o := fun e n => hideAll_get _ e (by simpa using n)
  generalize hG : hideAll s.heap [x] = h₀ at hg0 hgK
  have hGs : h₀.objs.size = s.heap.objs.size := by rw [← hG]; exact hideAll_size _ _
  have hGx : h₀.get? x = none := by rw [← hG]; exact hideAll_none _ (by simp)
  have F : Fr h₀ s.heap.objs.size h₁ (fun y => [(("self" : Str), Value.ref x), (p, v)].reverse.lookup y) := ⟨hns, fun b o e => hk₁ b o (hg0 e), Nat.le_of_eq hGs⟩
  have X₀ : K.In h₀ := fun b o e => hgK (X b o e) fun z => by rw [z, hnx] at e; cases e
  have Tg₀ : h₀.Ns mainGlobals mg := by obtain ⟨o, es, ep, e, r⟩ := Tg; exact ⟨o, es, ep, hgK e (Ne.symm hng), r⟩
  have Tb₀ : h₀.Ns builtinsNs mb := by obtain ⟨o, es, ep, e, r⟩ := Tb; exact ⟨o, es, ep, hgK e (Ne.symm hnb), r⟩
  have N : News h₀ s.heap.objs.size h₁ [(x, excObj C t0 none .none)] := fun q hq => by
    have e : q = (x, excObj C t0 none .none) := by simpa using hq
    subst e
    exact ⟨hk₁ _ _ hx, Nat.ne_of_lt hlt, hGx⟩
  obtain ⟨l1, l2⟩ := lookup_two (a := Value.ref x) (b := v) T.psf
  -- super().__init__(msg)
  refine ks_wpAt_execs_cons (ks_wpAt_Expr_any (ks_wpAt_MethodCall (pl := pl) ?_ (hnod _ _ _ _ _ _ _ _)))
  refine node_of (s := { s with heap := h₁, toks := _ }) F X₀ N Tg₀ Tb₀ Tbl ho (by first | rfl | with_unfolding_all rfl) (by exact l1) (InstAt.of_exc0 (x := x) (C := C) (t := t0) (c2 := .none) N (List.mem_singleton.mpr rfl)) hcode hvs hfile hcell hcl T.self_ hsuper (by decide +kernel) ?_ ?_ rfl rfl htop (by decide +kernel) fun so h2 F2 N2 lt2 => ?_
  · show List.lookup ("super" : Str) ((PySem.Str.ofString "self", NameKind.local) :: (p, NameKind.local) :: _) = _
    rw [List.lookup_cons, show (("super" : Str) == PySem.Str.ofString "self") = false by decide +kernel, List.lookup_cons, T.psu]
    rfl
  · show List.lookup ("__class__" : Str) ((PySem.Str.ofString "self", NameKind.local) :: (p, NameKind.local) :: _) = _
    rw [List.lookup_cons, show (("__class__" : Str) == PySem.Str.ofString "self") = false by decide +kernel, List.lookup_cons, T.pcl]
    rfl
  refine kxs_method KF F2 X₀ N2 (List.mem_cons_self ..) (InstAt.of_exc0 (x := x) (C := C) (t := t0) (c2 := .none) N2 (List.mem_cons_of_mem _ (List.mem_singleton.mpr rfl))) T.op hsi hB (by decide +kernel) fun q h3 F3 N3 lt3 => ?_
  refine kxs_callWith1 (news := _) N3 (List.mem_cons_self ..) ?_ (by first | rfl | with_unfolding_all rfl) (by first | rfl | with_unfolding_all rfl)
  generalize hE : callEnv (ksFn "__init__" qual (xA p p1 p2) (xB msg f p a1 a2 a3 a4 a5 a6 b1 b2 b3 b4) (xS p) .none .none doc pm an (.ref cda) ct cc) s.heap.objs.size fI = env
  rw [show starEach [.Constant (.str msg) 0 a4] env = (false, eval (.Constant (.str msg) 0 a4) env) :: starEach [] env from rfl]
  show wpAny _ _ (spliced ((false, eval (.Constant (.str msg) 0 a4) env) :: backTo a5 (starEach [] env))) _ _ _
  refine Calls.spliced_cons (Calls.Constant_str (Calls.spliced_nil ⟨kxs_at N3 (List.mem_cons_self ..), ?_⟩))
  have hxso : x < so := lt2 _ (List.mem_singleton.mpr rfl)
  have hxq : x < q := lt3 _ (List.mem_cons_of_mem _ (List.mem_singleton.mpr rfl))
  have hx0 : ∀ r ∈ ([] : List (Addr × Obj)), r.1 ≠ x := fun r hr => by cases hr
  refine kxs_call F3 X₀ N3 FB qI (List.mem_cons_self ..) (.tail (Nat.ne_of_gt hxq) (.tail (Nat.ne_of_gt hxso) (.head hx0))) (by show 1 ≤ sizeLine; decide) fun t' h4 F4 N4 lt4 => ?_
  -- self.f = p
  have hxt : x < t' := lt4 _ (List.mem_cons_of_mem _ (List.mem_cons_of_mem _ (List.mem_singleton.mpr rfl)))
  have kS : env.scope.kind = .function := by rw [← hE]; rfl
  have kL : env.locals = s.heap.objs.size := by rw [← hE]; rfl
  have kf : env.kindOf "self" = some .local := by rw [← hE]; rfl
  have kp : env.kindOf p = some .local := by
    rw [← hE]
    show List.lookup p ((PySem.Str.ofString "self", NameKind.local) :: (p, NameKind.local) :: _) = _
    rw [List.lookup_cons, T.psf, List.lookup_cons, beq_self_eq_true]
  have pd : (p == ("__debug__" : Str)) = false := T.pdb
  refine ks_wpAt_execs_cons (_root_.PySem.wpAt_of_wpAny (plainObj_wpAny_Assign_Attribute ?_))
  refine wpAny_Name (wpAny_loadName_local kS kp (by rw [kL]; exact F4.ns) (by exact l2) ?_) pd
  refine wpAny_Name (wpAny_loadName_local kS kf (by rw [kL]; exact F4.ns) (by exact l1) ?_) (by decide +kernel)
  have ht : takerIn K C f = some none := by unfold takerIn; rw [T.noF]; rfl
  obtain ⟨cdh, hcl', hhd⟩ := any_some T.hd
  rw [hcl] at hcl'
  cases hcl'
  have X4 : K.In h4 := X₀.keeps F4.keep
  have hx4 : h4.get? x = some (excObj C t' none .none) := (N4 _ (List.mem_cons_of_mem _ (List.mem_cons_of_mem _ (List.mem_cons_of_mem _ (List.mem_singleton.mpr rfl))))).1
  refine set_plain (od := none) X4 ⟨hx4, rfl, rfl, trivial⟩ T.sa (osa_newX SF X4 hx4 hcl qO ht hhd fun h5 tk5 dx k5 dn dne hx5 hn5 => ?_)
  show _root_.PySem.wpAt _ _ _ (execs [] _) _ _ _
  refine _root_.PySem.wpAt_of_wpAny (wpAny_execs_nil ?_)
  have z : s.heap.objs.size < h4.objs.size := F4.ns.lt
  exact hq h5 _ dx t' ⟨fun b o hb e => k5 b o hb (F4.keep b o (hgK e hb)), hx5, Nat.le_of_lt (Nat.lt_of_lt_of_le z dn), hn5⟩
/-- a made exception -/
structure XMade (h h' : Heap) (e C d : Addr) (f : Str) (v : Value) : Prop where
  keep : ∀ b o, h.get? b = some o → h'.get? b = some o
  new : h.objs.size ≤ e
  obj : ∃ oe vs, h'.get? e = some oe ∧ oe.cls = .ref C ∧ oe.dict = some d ∧ oe.data = .fields vs ∧ vs[1]? = some .none
  dbig : h.objs.size ≤ d
  dne : d ≠ e
  ns : h'.Ns1 d (fun y => if y = f then some v else none)
theorem one_szX (v : Value) : [v].length ≤ sizeLine := by
  rw [sizeLine_eq]
  exact (by decide : 1 ≤ 16777216)
theorem exc_made_run {prog : Program} {w : World} {A : Around} {R : Result → Shared → Prop} {s : Shared} {K : Frag} {C fI : Addr} {f p : Str} {mg mb : Str → Option Value} (T : XTxt prog K C fI f p) {v : Value} (X : K.In s.heap) (hlim : s.heap.NoLimit)
    (Tg : s.heap.Ns mainGlobals mg) (Tb : s.heap.Ns builtinsNs mb) (Tbl : ∀ x : Str, x ≠ "__name__" → mb x = bootBuiltins x) (hsuper : mg "super" = none) (htop : (prog.main.scope.names.lookup ("super" : Str)).isSome = false) (hroom : A.depth + 1 < recursionLimit)
    (hq : ∀ h' tk e d, XMade s.heap h' e C d f v → R (.ok (.ret (.ref e))) { s with heap := h', toks := tk }) :
    codeAny (model prog w) A (.call (.ref C) ⟨[v], []⟩) R s := by
  obtain ⟨B, newId, i, bmB, KF, FB, SF, qI, qO, hsi, hB⟩ := T.cls
  obtain ⟨nm, N', qn, bs, bm, hdct, sn, sub, ab, col, dd, k0, k1, k2, k3, k5, hC, hT⟩ := excInit_of X qI
  obtain ⟨oI, hoI, hcI⟩ : ∃ oI, s.heap.get? fI = some oI ∧ oI.cls = .type "function" := by
    obtain ⟨o, ho, hc⟩ := Option.map_eq_some_iff.mp (show (K.lookup fI).map (·.cls) = some (.type "function") from beq_iff_eq.mp T.fnI)
    exact ⟨o, X _ _ ho, hc⟩
  have hi' : PySem.W.Looks (model prog w) s.heap (typeLookup (.ref C) "__init__") (some (.ref fI)) := looks_findIn X T.iC
  obtain ⟨hp, g, dr, tk, os⟩ := s
  have k : ∀ b o, hp.get? b = some o → ((hp.push (excTup [v])).push (excObj C hp.objs.size none .none)).get? b = some o := fun b o e => Heap.get?_push_of_some _ (Heap.get?_push_of_some _ e)
  have hget : ((hp.push (excTup [v])).push (excObj C hp.objs.size none .none)).get? (hp.objs.size + 1) = some (excObj C hp.objs.size none .none) := by
    have := Heap.get?_push_size (hp.push (excTup [v])) (o := excObj C hp.objs.size none .none) rfl
    rwa [Heap.size_push] at this
  have big : ∀ {b : Addr} {o : Obj}, hp.get? b = some o → b ≠ hp.objs.size + 1 := fun e z => by
    have := Heap.lt_size e
    rw [z] at this
    exact absurd (Nat.lt_of_succ_lt this) (Nat.lt_irrefl _)
  have hnx : K.lookup (hp.objs.size + 1) = none := by
    cases e : K.lookup (hp.objs.size + 1) with
    | none => rfl
    | some o => exact absurd rfl (big (X _ _ e))
  refine PX.call_own FB hT hC hi' (fun self => exc_bind hoI hcI self) (one_szX v) ?_
  refine exc_init_run (s := ⟨(hp.push (excTup [v])).push (excObj C hp.objs.size none .none), g, dr, tk, os⟩) T (X.keeps k) (hlim.keeps k) (Tg.keeps k) (Tb.keeps k) Tbl hsuper htop hget hnx ?_ ?_ ?_ fun h' tk' dx t1 ⟨k', hx, dn, hns⟩ => ?_
  · obtain ⟨o, _, _, e, _⟩ := Tg
    exact Ne.symm (big e)
  · obtain ⟨o, _, _, e, _⟩ := Tb
    exact Ne.symm (big e)
  · show A.depth + 1 < recursionLimit
    exact hroom
  · have old : ∀ b o, hp.get? b = some o → h'.get? b = some o := fun b o e => k' b o (big e) (k b o e)
    have z : hp.objs.size + 1 + 1 ≤ dx := by
      have q := dn
      rw [Heap.size_push, Heap.size_push] at q
      exact q
    exact ⟨rfl, hq h' tk' (hp.objs.size + 1) dx ⟨old, Nat.le_succ _, ⟨_, _, hx, rfl, rfl, rfl, rfl⟩, (by show hp.objs.size ≤ dx; omega), Nat.ne_of_gt (Nat.lt_of_succ_le z), hns⟩⟩
/-! ### raise C(e) -/
open L2
theorem relO_one {f : Str} {v : V} {v' : Value} (r : RelV v v') (g : Str) : RelO (List.lookup g [(f, v)]) (if g = f then some v' else none) := by
  by_cases hw : g = f
  · subst hw
    rw [if_pos rfl]
    have q : List.lookup g [(g, v)] = some v := by simp [List.lookup]
    rw [q]
    exact r
  · rw [if_neg hw]
    have qw : (g == f) = false := by simpa using hw
    have q2 : List.lookup g [(f, v)] = none := by simp [List.lookup, qw]
    rw [q2]
    trivial
section
variable {X : Cx} {cn : Cn} {W : WX} {C fI : Addr} {f pn : Str}
def tMkX (C : Addr) (f : Str) (ta : TA) : L2.St → Hp → XK → Prop := fun σ H Q => ta σ H fun vs H1 => ∃ v, vs = [v] ∧ ∀ d, H1 d = none → Q (.ref C) (some d) (upd H1 d (.xd [(f, v)]))
theorem pmk_x {a : Expr} {ta : TA} {x : Str} {p pos : Pos} {k : Nat} (T : XTxt X.prog X.K C fI f pn) (gC : X.mg x = some (.ref C)) (hsuper : X.mg "super" = none) (htop : (X.prog.main.scope.names.lookup ("super" : Str)).isSome = false) (hr : Room k X.A) (ha : PA X [a] ta) (hg : Gl X x := by rfl) (hdb : (x == ("__debug__" : Str)) = false := by decide)
    (he : starEach (a :: []) X.env = (false, eval a X.env) :: starEach [] X.env := by rfl) (hpl : (backTo pos (starEach [] X.env)).any (·.1) = false := by rfl) :
    PMk X (.Call (.Name x p) [a] [] pos) (tMkX C f ta) := by
  intro pins s σ H Q I h
  refine wpAny_Call_Name_kw (ld_glob I hg gC ?_ hdb)
  refine PySem.W.callWith_K (h₀ := X.base) I.ok.mod.kin T.kp (thn (ha.run pos pins s σ H _ I h) fun us s1 hh => ?_) he hpl
  obtain ⟨vs, H1, I1, r1, v, ev, q1⟩ := hh
  subst ev
  refine ⟨I1.kIn, ?_⟩
  cases r1 with
  | cons rv rn =>
    rename_i v' us'
    cases rn
    show wpAny _ _ (call (.ref C) [v']) _ _ _
    have hlim := I1.nolimit
    obtain ⟨mb, b1, b2⟩ := I1.mod.blt
    have Tg := I1.mod.glob.keeps I1.bk
    have Tb := b1.keeps I1.bk
    obtain ⟨hp, g, dr, tk, os⟩ := s1
    refine wpAny_call (exc_made_run T I1.kIn hlim Tg Tb b2 hsuper htop (by have := hr.dp; omega) fun h' tk' e d M => ?_)
    show MkP X pins σ Q (.ref e) ⟨h', g, dr, tk', os⟩
    obtain ⟨oe, fv, hoe, hc, hd, hdat, h1⟩ := M.obj
    have hns := M.ns
    obtain ⟨G', g1, g2⟩ := restrict h' fun b => decide (b ≠ e)
    have gk : ∀ b, b ≠ e → G'.get? b = h'.get? b := fun b hb => g1 b (decide_eq_true hb)
    have ge : G'.get? e = none := g2 e (by simp)
    have old : ∀ b o, hp.get? b = some o → G'.get? b = some o := fun b o q => (gk b (Nat.ne_of_lt (Nat.lt_of_lt_of_le (Heap.lt_size q) M.new))).trans (M.keep b o q)
    have ob : ObjOk X.prog X.w (upd H1 d (.xd [(f, v)])) G' d (.xd [(f, v)]) :=
      ⟨_, hns.at (fun o q => (gk d M.dne).trans q), fun g => relO_one rv g⟩
    have J : Inv X pins σ (upd H1 d (.xd [(f, v)])) ⟨G', g, dr, tk', os⟩ := I1.laid (t' := tk') old M.dbig ob
    refine ⟨e, oe, fv, ⟨G', g, dr, tk', os⟩, _, .ref C, some d, rfl, J, fun b o q => ?_, ge, hoe, ⟨hc, hd⟩, hdat, h1, ?_, rfl, I1.bare, raises_own T.exC T.tyC, q1 d (I1.hok.fresh M.dbig)⟩
    · by_cases hb : b = e
      · have q' : G'.get? b = some o := q
        rw [hb, ge] at q'; cases q'
      · exact (gk b hb).symm.trans q
    · rw [upd_ne (Ne.symm M.dne)]
      exact I1.hok.fresh M.new
/-- raise c(e), c's one field f -/
def sRaise (c f : Str) (fe : EM) : SM := doE fe fun a e m => .exc ⟨c, [(f, a)]⟩ e m
theorem s_raise {a : Expr} {x c : Str} {fe : EM} {p pos pos2 : Pos} {k : Nat} (hc : X.calm = true) (tk : Takes X W) (T : XTxt X.prog X.K (cn c) fI f pn) (gC : X.mg x = some (.ref (cn c))) (hsuper : X.mg "super" = none) (htop : (X.prog.main.scope.names.lookup ("super" : Str)).isSome = false) (hr : Room k X.A) (ha : JE X cn W a fe) (hg : Gl X x := by rfl) (hdb : (x == ("__debug__" : Str)) = false := by decide)
    (he : starEach [a] X.env = [(false, eval a X.env)] := by rfl) (he' : starEach (a :: []) X.env = (false, eval a X.env) :: starEach [] X.env := by rfl) (hpl : (backTo pos (starEach [] X.env)).any (·.1) = false := by rfl) :
    JS X cn W (.Raise (some (.Call (.Name x p) [a] [] pos)) none pos2) (sRaise c f fe) := by
  refine ps_imp (ps_raise hc tk (pmk_x T gC hsuper htop hr (one_arg ha he) hg hdb he' hpl)) fun D s H ⟨r, m, e, hs, hr, p⟩ => ⟨r, m, e, hs, hr, (doE_wp hs p).mono (fun y m1 w1 r1 H1 v x1 hr1 hv => ?_) fun _ _ q => q⟩
  refine ⟨v, rfl, fun d hd => ?_⟩
  have x2 : Ext r1 H1 r1 (upd H1 d (.xd [(f, v)])) := .grow0 (upd_old hd)
  exact w1 r1 _ s _ _ (x1.trans x2) (hr1.keep x2 (upd_old hd)) (hs.ext (x1.trans x2)) ⟨rfl, .inr ⟨d, _, rfl, upd_same, .cons (hv.ext x2) .nil, fun q hq => let ⟨i, e⟩ := List.getElem?_of_mem hq; hr1.fresh hd e⟩⟩
end
end Mi
end

section
set_option Elab.async false
set_option linter.all false
set_option maxRecDepth 100000
set_option maxHeartbeats 2000000
namespace Mi
open PySem PySem.Spec PyProof.Rows L2

/-! ### except suites that return what is built of constants and of the exception's fields -/
abbrev HXM := MX → MM MV
def HE (K : PySem.W.Frag) (cn : Cn) (j : Option Nat) (a : Addr) (cls : Value) (d : Option Addr) (h : HXM) : TE := fun σ' H Q => (∀ i, j = some i → σ'[i]? = some (some (.ref a))) ∧ ∃ r m x, HR K cn r m H ∧ ER K cn r H x cls d ∧ Wp (h x m) (PostE K cn r H Q) fun _ _ => False
def HA (K : PySem.W.Frag) (cn : Cn) (j : Option Nat) (a : Addr) (cls : Value) (d : Option Addr) (h : MX → MM (List MV)) : TA := fun σ' H Q => (∀ i, j = some i → σ'[i]? = some (some (.ref a))) ∧ ∃ r m x, HR K cn r m H ∧ ER K cn r H x cls d ∧ Wp (h x m) (PostA K cn r H Q) fun _ _ => False
abbrev JHE (X : Cx) (cn : Cn) (j : Option Nat) (e : Expr) (h : HXM) : Prop := ∀ (a : Addr) (oe : Obj) (cls : Value) (d : Option Addr) (pn : List (Addr × Obj)), Zc cls d oe → (∃ vs, oe.data = .fields vs) → PE (X.suite a ((a, oe) :: pn)) e (HE X.K cn j a cls d h)
abbrev JHA (X : Cx) (cn : Cn) (j : Option Nat) (e : List Expr) (h : MX → MM (List MV)) : Prop := ∀ (a : Addr) (oe : Obj) (cls : Value) (d : Option Addr) (pn : List (Addr × Obj)), Zc cls d oe → (∃ vs, oe.data = .fields vs) → PA (X.suite a ((a, oe) :: pn)) e (HA X.K cn j a cls d h)
section
variable {X : Cx} {cn : Cn} {j : Option Nat}
def hC (a : MV) : HXM := fun _ => pure a
theorem h_con {e : Expr} {v : V} {a : MV} (h : ∀ a pn, PE (X.suite a pn) e (tC v)) (hv : ∀ r H, RV X.K cn r H a v) : JHE X cn j e (hC a) := fun b oe cls d pn hz hf => pe_imp (h b _) fun s H Q ⟨_, r, m, x, hr, he, w⟩ => w r H v .refl hr (hv r H)
theorem h_str {x : Str} {k : Nat} {pos : Pos} : JHE X cn j (.Constant (.str x) k pos) (hC (.str x)) := h_con (fun _ _ => pe_str) fun _ _ => .str x
/-- e.f -/
def hFld (cs : List Str) (f : Str) : HXM := fun x => if x.cls ∈ cs then (match x.fs.lookup f with
  | some v => pure v
  | none => MM.fail) else MM.fail
theorem h_fld {cs : List Str} {f n : Str} {i : Nat} {p pos : Pos} (hj : j = some i := by rfl) (hN : X.N[i]? = some n := by rfl) (hcs : ∀ c ∈ cs, XfC X.K (cn c) ∧ PySem.W.findIn X.K (.ref (cn c)) f = some none)
    (hv : Vis X.env.scope n := by first | exact Or.inl rfl | exact Or.inr (Or.inl rfl) | exact Or.inr (Or.inr rfl)) (hd : (n == ("__debug__" : Str)) = false := by decide) (hcd : (n == ("__classdict__" : Str)) = false := by decide) (hb : attributeBase (.Name n p) f X.env (eval (.Name n p) X.env) = eval (.Name n p) X.env := by rfl) :
    JHE X cn j (.Attribute (.Name n p) f pos) (hFld cs f) := by
  intro a oe cls d pn hz hf
  by_cases h : ∃ c ∈ cs, cls = .ref (cn c)
  · obtain ⟨c, hc, ec⟩ := h
    obtain ⟨T, hno⟩ := hcs c hc
    refine pe_imp (pe_xf (pos := pos) T hno hz hf (pe_var (X := X.suite a ((a, oe) :: pn)) (i := i) (pos := p) hN hv hd hcd) hb) fun s H Q ⟨hi, r, m, x, hr, ⟨e1, e2⟩, w⟩ => ?_
    refine ⟨.ref a, hi i hj, rfl, ec, ?_⟩
    unfold hFld at w
    by_cases q : x.cls ∈ cs
    · rw [if_pos q] at w
      cases q2 : x.fs.lookup f with
      | none => rw [q2] at w; exact w.elim
      | some v =>
        rw [q2] at w
        rcases e2 with ⟨z, _⟩ | ⟨dd, vs, z1, z2, z3, _⟩
        · rw [z] at q2; cases q2
        · obtain ⟨u, h1, h2⟩ := z3.lookup q2
          exact ⟨dd, vs, u, z1, z2, h1, w r H u .refl hr h2⟩
    · rw [if_neg q] at w; exact w.elim
  · refine ⟨fun pins s σ H Q I ⟨_, r, m, x, hr, ⟨e1, _⟩, w⟩ => ?_⟩
    unfold hFld at w
    by_cases q : x.cls ∈ cs
    · exact absurd ⟨x.cls, q, e1⟩ h
    · rw [if_neg q] at w; exact w.elim
/-- repr(..) -/
def hRepr (h : HXM) : HXM := fun x => do
  let a ← h x
  liftN reprO [a]
theorem h_repr {e : Expr} {h : HXM} {p pos : Pos} (hg : X.A.guards = some []) (hu : X.A.units + 66 < cLine) (he : JHE X cn j e h) (hm : X.mg "repr" = none) (hgl : Gl X "repr" := by rfl)
    (hst : starEach [e] X.env = [(false, eval e X.env)] := by rfl) : JHE X cn j (.Call (.Name "repr" p) [e] [] pos) (hRepr h) := by
  intro a oe cls d pn hz hf
  have hs1 : starEach (e :: []) (X.suite a ((a, oe) :: pn)).env = (false, eval e (X.suite a ((a, oe) :: pn)).env) :: starEach [] (X.suite a ((a, oe) :: pn)).env := hst.trans (by rw [show starEach [] X.env = [] from rfl])
  refine pe_imp (pe_callB (X := X.suite a ((a, oe) :: pn)) (call_reprM (X := X.suite a ((a, oe) :: pn)) (cn := cn) hg hu) hgl hm (by decide +kernel) (pa_cons (he a oe cls d pn hz hf) pa_nil hs1) (he := hs1)) fun s H Q ⟨hi, r, m, x, hr, her, w⟩ => ?_
  refine ⟨hi, r, m, x, hr, her, w.bind.mono (fun y m1 w1 r1 H1 v x1 hr1 hv => ?_) fun _ _ q => q⟩
  unfold liftN at w1
  cases q : reprO [y] m1 with
  | none => rw [q] at w1; exact w1.elim
  | some c =>
    rw [q] at w1
    exact ⟨r1, m1, [y], c.1, c.2, hr1, .one hv, q, fun r' H' v' z => w1 r' H' v' (x1.trans z)⟩
def hNil : MX → MM (List MV) := fun _ => pure []
def hCons (h : HXM) (t : MX → MM (List MV)) : MX → MM (List MV) := fun x => do
  let a ← h x
  let r ← t x
  pure (a :: r)
theorem h_nil : JHA X cn j [] hNil := fun a oe cls d pn hz hf => pa_imp pa_nil fun s H Q ⟨_, r, m, x, hr, he, w⟩ => w r H [] .refl hr .nil
theorem h_cons {e : Expr} {es : List Expr} {h : HXM} {t : MX → MM (List MV)} (he : JHE X cn j e h) (ht : JHA X cn j es t) (hs : starEach (e :: es) X.env = (false, eval e X.env) :: starEach es X.env := by rfl) : JHA X cn j (e :: es) (hCons h t) := by
  intro a oe cls d pn hz hf
  refine pa_imp (pa_cons (X := X.suite a ((a, oe) :: pn)) (he a oe cls d pn hz hf) (ht a oe cls d pn hz hf) hs) fun s H Q ⟨hi, r, m, x, hr, her, w⟩ => ?_
  refine ⟨hi, r, m, x, hr, her, w.bind.mono (fun y m1 w1 r1 H1 v x1 hr1 hv => ?_) fun _ _ q => q⟩
  refine ⟨hi, r1, m1, x, hr1, her.ext x1, w1.bind.mono (fun ys m2 w2 r2 H2 vs x2 hr2 hvs => ?_) fun _ _ q => q⟩
  exact w2 r2 H2 _ (x1.trans x2) hr2 (.cons (hv.ext x2) hvs)
def hLst (t : MX → MM (List MV)) : HXM := fun x => do
  let xs ← t x
  if xs.length ≤ sizeLine then pure (.con xs) else MM.fail
def hTup (t : MX → MM (List MV)) : HXM := fun x => do
  let xs ← t x
  if xs.length ≤ sizeLine then pure (.tup xs) else MM.fail
theorem h_lst {es : List Expr} {t : MX → MM (List MV)} {pos : Pos} (h : JHA X cn j es t) : JHE X cn j (.List es pos) (hLst t) := by
  intro a oe cls d pn hz hf
  refine pe_imp (pe_lk (pe_lst (h a oe cls d pn hz hf))) fun s H Q ⟨hi, r, m, x, hr, her, w⟩ => ⟨hi, r, m, x, hr, her, w.bind.mono (fun xs m1 w1 r1 H1 vs x1 hr1 hv => ?_) fun _ _ q => q⟩
  by_cases hz : xs.length ≤ sizeLine
  · rw [if_pos hz] at w1
    exact ⟨by rw [← hv.length]; exact hz, lkq_list hr1 hv (PostE.ext w1 x1)⟩
  · rw [if_neg hz] at w1
    exact w1.elim
theorem h_tup {es : List Expr} {t : MX → MM (List MV)} {x1 : Nat} {pos : Pos} (h : JHA X cn j es t) : JHE X cn j (.Tuple es x1 pos) (hTup t) := by
  intro a oe cls d pn hz hf
  refine pe_imp (pe_tup (h a oe cls d pn hz hf)) fun s H Q ⟨hi, r, m, x, hr, her, w⟩ => ⟨hi, r, m, x, hr, her, w.bind.mono (fun xs m1 w1 r1 H1 vs x1 hr1 hv => ?_) fun _ _ q => q⟩
  by_cases hz : xs.length ≤ sizeLine
  · rw [if_pos hz] at w1
    refine ⟨by rw [← hv.length]; exact hz, fun p hp => ?_⟩
    have x2 : Ext r1 H1 r1 (upd H1 p (.tup vs)) := ext_tup hp
    exact w1 r1 _ _ (x1.trans x2) (hr1.tup hp) (.tup (SqT.of upd_same) (hv.ext x2))
  · rw [if_neg hz] at w1
    exact w1.elim
/-- a suite that returns -/
def LHr (K : PySem.W.Frag) (cn : Cn) (j : Option Nat) (h : HXM) : Addr → Value → Option Addr → TS := fun a cls d D σ' H => (∀ i, j = some i → σ'[i]? = some (some (.ref a))) ∧ ∃ r m x, HR K cn r m H ∧ ER K cn r H x cls d ∧ Wp (h x m) (PostE K cn r H D.rt) fun _ _ => False
abbrev JH (X : Cx) (cn : Cn) (j : Option Nat) (st : List Stmt) (h : HXM) : Prop := ∀ (a : Addr) (oe : Obj) (cls : Value) (d : Option Addr) (pn : List (Addr × Obj)), Zc cls d oe → (∃ vs, oe.data = .fields vs) → PSs (X.suite a ((a, oe) :: pn)) st (LHr X.K cn j h a cls d)
theorem h_ret {e : Expr} {h : HXM} {pos : Pos} (he : JHE X cn j e h) : JH X cn j [.Return (some e) pos] h := fun a oe cls d pn hz hf =>
  pss_imp (pss_one (ps_ret (he a oe cls d pn hz hf))) fun D s H ⟨hi, r, m, x, hr, her, w⟩ => ⟨hi, r, m, x, hr, her, w⟩
/-- a clause's mirror: which classes it takes; its name's slot; what its suite returns -/
structure HM where
  tb : List (Str × Bool)
  i : Option Nat
  h : HXM
inductive JHds (X : Cx) (cn : Cn) : List ExceptHandler → List HM → Prop
  | nil : JHds X cn [] []
  | cons {x : Str} {c : Value} {b₀ : Stmt} {suite : List Stmt} {np pos' : Pos} {tb : List (Str × Bool)} {h : HXM} {hds : List ExceptHandler} {l : List HM} (hc : Names X x c) (ht : ∀ k b, tb.lookup k = some b → PySem.W.exmOne X.K (.ref (cn k)) c = some b)
      (hsu : JH X cn none (b₀ :: suite) h) (r : JHds X cn hds l) : JHds X cn (.ExceptHandler (some (.Name x np)) none (b₀ :: suite) pos' :: hds) (⟨tb, none, h⟩ :: l)
  | as_ {x n : Str} {i : Nat} {c : Value} {b₀ : Stmt} {suite : List Stmt} {np pos' : Pos} {tb : List (Str × Bool)} {h : HXM} {hds : List ExceptHandler} {l : List HM} (hc : Names X x c) (hi : X.N[i]? = some n) (hln : X.env.kindOf n = some .local) (ht : ∀ k b, tb.lookup k = some b → PySem.W.exmOne X.K (.ref (cn k)) c = some b)
      (hsu : JH X cn (some i) (b₀ :: suite) h) (r : JHds X cn hds l) : JHds X cn (.ExceptHandler (some (.Name x np)) (some n) (b₀ :: suite) pos' :: hds) (⟨tb, some i, h⟩ :: l)
def tryH : List HM → MX → SM
  | [], x => fun e m => .exc x e m
  | h :: r, x => fun e m => match h.tb.lookup x.cls with
    | some true => if (match h.i with | some i => decide (i < e.length) | none => true) = true then (match h.h x m with
      | .ok a m' => .rt a m'
      | _ => .bad) else .bad
    | some false => tryH r x e m
    | none => .bad
def sTry (g : SM) (hs : List HM) : SM := fun e m => match g e m with
  | .exc x e' m' => tryH hs x e' m'
  | o => o
variable {W : WX} {body : List Stmt} {h₀ : ExceptHandler} {hds : List ExceptHandler} {hms : List HM} {g : SM} {pos : Pos}
theorem mix_of : ∀ {hds : List ExceptHandler} {hms : List HM}, JHds X cn hds hms → ∃ l : List Hd, HdMix X hds l ∧ ∀ (D : Ends) (r : Rho) (m : MH) (e : ME) (x : MX) (s : L2.St) (H : Hp) (cls : Value) (d : Option Addr), HR X.K cn r m H → SR X.K cn r H e s → ER X.K cn r H x cls d → PostS X.K cn W D r H (tryH hms x e m) → wMix X.K W D l cls d s H
  | _, _, .nil => ⟨[], .nil, fun D r m e x s H cls d hr hs he p => p r H s cls d .refl hr hs he⟩
  | _, _, .cons (c := c) (tb := tb) (h := h) (l := l) hc ht hsu rest => by
    obtain ⟨l', h1, h2⟩ := mix_of rest
    refine ⟨⟨c, none, LHr X.K cn none h⟩ :: l', .cons hc hsu h1, fun D r m e x s H cls d hr hs he p => ?_⟩
    unfold tryH at p
    obtain ⟨rfl, he2⟩ := id he
    cases q : tb.lookup x.cls with
    | none => simp only [q] at p; exact p.elim
    | some b =>
      refine ⟨b, ht _ _ q, fun hb a ha => ?_, fun hb => ?_⟩
      · subst hb
        simp only [q, if_true] at p
        refine ⟨fun i z => (by cases z), r, m, x, hr, he, ?_⟩
        cases q2 : h x m with
        | ok v m' => rw [q2] at p; exact p
        | exc _ _ => rw [q2] at p; exact p.elim
        | bad => rw [q2] at p; exact p.elim
      · subst hb
        simp only [q] at p
        exact h2 D r m e x s H _ d hr hs he p
  | _, _, .as_ (i := i) (c := c) (tb := tb) (h := h) (l := l) hc hi hln ht hsu rest => by
    obtain ⟨l', h1, h2⟩ := mix_of rest
    refine ⟨⟨c, some i, LHr X.K cn (some i) h⟩ :: l', .as_ hc hi hln hsu h1, fun D r m e x s H cls d hr hs he p => ?_⟩
    unfold tryH at p
    obtain ⟨rfl, he2⟩ := id he
    cases q : tb.lookup x.cls with
    | none => simp only [q] at p; exact p.elim
    | some b =>
      refine ⟨b, ht _ _ q, fun hb a ha => ?_, fun hb => ?_⟩
      · subst hb
        simp only [q] at p
        by_cases hl : i < e.length
        · rw [if_pos (decide_eq_true hl)] at p
          refine ⟨fun k z => ?_, r, m, x, hr, he, ?_⟩
          · cases z
            show (s.set i _)[i]? = _
            exact List.getElem?_set_self (by rw [← hs.1]; exact hl)
          · cases q2 : h x m with
            | ok v m' => rw [q2] at p; exact p
            | exc _ _ => rw [q2] at p; exact p.elim
            | bad => rw [q2] at p; exact p.elim
        · rw [if_neg (by simpa using hl)] at p; exact p.elim
      · subst hb
        simp only [q] at p
        exact h2 D r m e x s H _ d hr hs he p
theorem s_try (hs : X.stack = X.env :: X.outer) (hf : X.env.frame = some X.env.locals) (hN : X.N.Nodup) (tk : Takes X W)
    (hB : ∀ (W : WX) (pn : List (Addr × Obj)) (xe : Value → Shared → Prop), Takes (X.tr pn xe) W → PassesOwn (model X.prog X.w) X.A X.env xe → JSs (X.tr pn xe) cn W body g) (hh : JHds X cn (h₀ :: hds) hms) : JS X cn W (.Try body (h₀ :: hds) [] [] pos) (sTry g hms) := by
  obtain ⟨l, h1, h2⟩ := mix_of (W := W) hh
  refine ps_imp (ps_try_mix (tb := fun W => LS X.K cn W g) hs hf hN tk hB h1) fun D s H ⟨r, m, e, hs, hr, p⟩ => ⟨r, m, e, hs, hr, ?_⟩
  unfold sTry at p
  cases q : g e m with
  | exc x e' m' =>
    rw [q] at p
    exact fun r' H' s' cls d x1 hr' hs' he => h2 D r' m' e' x s' H' cls d hr' hs' he (PostS.ext p x1)
  | nx _ _ => rw [q] at p; exact p
  | rt _ _ => rw [q] at p; exact p
  | bk _ _ => rw [q] at p; exact p
  | ct _ _ => rw [q] at p; exact p
  | bad => rw [q] at p; exact p
end
end Mi
end

section
set_option Elab.async false
set_option linter.all false
set_option maxRecDepth 100000
set_option maxHeartbeats 2000000
namespace Mi
open PySem PySem.Spec PyProof.Rows L2

/-! ### own operators: a + b with an instance on the left -/
/-- the other operand is none of the class's own kind: a built-in type's, or one of the same class -/
def othK (K : PySem.W.Frag) (C : Addr) (nm : String) : Value → Bool
  | .type T => (PySem.W.findIn K (.type T) (PySem.dunder nm)).isSome && (PySem.W.findIn K (.type T) (dunderR nm)).isSome && PySem.W.subIn K (.type T) (.ref C) == some false
  | .ref D => D == C
  | _ => false
/-- .. the class's own method f, its reflected one is a def or none -/
structure OwnOp (K : PySem.W.Frag) (C : Addr) (nm : String) (f : Addr) : Prop where
  cl : Cls K C
  sf : PySem.W.selfFirst K C = true
  me : Meth K C (PySem.dunder nm) f
  re : ∃ rc, PySem.W.findIn K (.ref C) (dunderR nm) = some rc ∧ (rc = none ∨ ∃ g : Addr, rc = some (.ref g))
section
variable {X : Cx} {cn : Cn} {W : WX} {pos : Pos}
inductive OTab (X : Cx) (cn : Cn) (W : WX) (nm : String) : List (Str × List Tag × (List MV → MM MV)) → Prop
  | nil : OTab X cn W nm []
  | cons {c : Str} {ts : List Tag} {f : Addr} {h : List MV → MM MV} {r : List (Str × List Tag × (List MV → MM MV))} (ho : OwnOp X.K (cn c) nm f) (ht : ∀ t, ts.contains t = true → othK X.K (cn c) nm (tagV cn t) = true) (hi : ∀ c', ts.contains (.o c') = true → InsK X.K (cn c')) (k : CallM X cn W (.ref f) h) (t : OTab X cn W nm r) : OTab X cn W nm ((c, ts, h) :: r)
theorem OTab.get {nm : String} {c : Str} {ts : List Tag} {h : List MV → MM MV} : ∀ {l : List (Str × List Tag × (List MV → MM MV))}, OTab X cn W nm l → l.lookup c = some (ts, h) → ∃ f, OwnOp X.K (cn c) nm f ∧ (∀ t, ts.contains t = true → othK X.K (cn c) nm (tagV cn t) = true) ∧ (∀ c', ts.contains (.o c') = true → InsK X.K (cn c')) ∧ CallM X cn W (.ref f) h
  | _, .nil, e => by cases e
  | _, .cons (c := c') ho ht hi k t, e => by
    rw [List.lookup_cons] at e
    cases q : (c == c') with
    | true =>
      rw [q] at e
      cases e
      have := eq_of_beq q
      subst this
      exact ⟨_, ho, ht, hi, k⟩
    | false => rw [q] at e; exact t.get e
/-- the own method, else the plain one -/
def oOwn (tab : List (Str × List Tag × (List MV → MM MV))) (h₀ : MV → MV → MM MV) : MV → MV → MM MV := fun a b m => match clsM m a with
  | some (c, _) => (match tab.lookup c, tagM m b with
    | some (ts, h), some t => if ts.contains t then h [a, b] m else .bad
    | _, _ => .bad)
  | none => h₀ a b m
theorem ep_back {pins : List (Addr × Obj)} {σ : L2.St} {Q : VK} {v : Value} {s : Shared} (h : EP X pins σ Q v s) : PySem.W.CmpBack (EP X pins σ Q) v s := by
  cases v with
  | notImplemented =>
    obtain ⟨x, H, I, r, q⟩ := h
    cases x with
    | int i => obtain ⟨t, e⟩ := r; cases e
    | str i => obtain ⟨t, e⟩ := r; cases e
    | byt i => obtain ⟨t, e⟩ := r; cases e
    | flt i => obtain ⟨t, e⟩ := r; cases e
    | _ => cases r
  | _ => exact h
end
section
variable {prog : Program} {w : World} {A : Around} {E : Value → Shared → Prop} {s : Shared} {K : PySem.W.Frag} {x C L f : Addr} {h₀ : Heap} {m : Str → Option Value} {ox : Obj} {od : Option Obj}
open PySem.W in
/-- a built-in value on the right (its type found on the heap) -/
theorem bin_ownT {op : Operator} {b : Value} {T : String} {fo ro rc : Option Value} {Q : Value → Shared → Prop} (X : K.In s.heap) (I : InstAt s.heap x ox C od) (hb : Looks (model prog w) s.heap (typeOf b) (.type T)) (hc : selfFirst K C = true)
    (hs : findIn K (.ref C) (PySem.dunder op.info.2) = some (some (.ref f))) (hf : isFn K (.ref f) = true) (hr : findIn K (.ref C) (dunderR op.info.2) = some rc) (hp : rc = none ∨ ∃ g : Addr, rc = some (.ref g))
    (h1 : findIn K (.type T) (PySem.dunder op.info.2) = some fo) (h2 : findIn K (.type T) (dunderR op.info.2) = some ro) (hsub : subIn K (.type T) (.ref C) = some false)
    (h : wpAny (model prog w) A (call (.ref f) [.ref x, b]) (PySem.W.CmpBack Q) E s) : wpAny (model prog w) A (binaryOp op (.ref x) b) Q E s := by
  obtain ⟨cd, rest, hcd, hm⟩ := ksp_first hc
  rcases hi : op.info with ⟨sym, nm'⟩
  rw [hi] at hs hr h1 h2
  dsimp only at hs hr h1 h2
  have one := ksp_try X I hs hf h
  obtain ⟨hh, g, d, tt, os⟩ := s
  have L1 : Looks (model prog w) hh (typeOf (.ref x)) (.ref C) := I.type
  have L2 : Looks (model prog w) hh (typeOf b) (.type T) := hb
  have L3 : Looks (model prog w) hh (fillsNumberSlot (.ref C) nm') true := fills_K X hcd hm hs
  have L4 : Looks (model prog w) hh (fillsNumberSlot (.type T) nm') ((fo.isSome && !isSeqSlot fo) || (ro.isSome && !isSeqSlot ro)) := ksp_fillsT X h1 h2
  have L5 : Looks (model prog w) hh (isSubtype (.type T) (.ref C)) false := looks_subIn X hsub
  have L6 : Looks (model prog w) hh (numberSlotInPython (.ref C) nm') true := ksp_inPy X hs hr hp
  have L7 : Looks (model prog w) hh (numberSlotInPython (.type T) nm') false := Looks.of_pure rfl
  have L8 : Looks (model prog w) hh (typeLookup (.type T) (dunderR nm')) ro := looks_findIn X h2
  generalize ((fo.isSome && !isSeqSlot fo) || (ro.isSome && !isSeqSlot ro)) = right at L4
  have hne : (Value.ref C == Value.type T) = false := Bool.eq_false_iff.mpr fun q => by cases beq_iff_eq.mp q
  simp only [binaryOp, hi]
  refine wpAny_holding (wpAny_bind ?_)
  unfold binaryOp1
  refine wpAny_bind (L1.at (wpAny_bind (L2.at (wpAny_bind (L3.at ?_)))))
  simp only [hne, Bool.false_eq_true, if_false]
  cases right with
  | false =>
    ksp_lk
    refine wpAny_mono one (fun r s' hr' => ?_) fun _ _ e => e
    obtain ⟨v, rfl, hq⟩ := hr'
    ksp_lk
    exact hq
  | true =>
    ksp_lk
    refine wpAny_mono one (fun r s' hr' => ?_) fun _ _ e => e
    obtain ⟨v, rfl, hq⟩ := hr'
    ksp_lk
    exact hq
open PySem.W in
/-- an instance of the same class on the right -/
theorem bin_ownS {op : Operator} {b : Value} {Q : Value → Shared → Prop} (X : K.In s.heap) (I : InstAt s.heap x ox C od) (hb : Looks (model prog w) s.heap (typeOf b) (.ref C)) (hc : selfFirst K C = true)
    (hs : findIn K (.ref C) (PySem.dunder op.info.2) = some (some (.ref f))) (hf : isFn K (.ref f) = true)
    (h : wpAny (model prog w) A (call (.ref f) [.ref x, b]) (PySem.W.CmpBack Q) E s) : wpAny (model prog w) A (binaryOp op (.ref x) b) Q E s := by
  obtain ⟨cd, rest, hcd, hm⟩ := ksp_first hc
  rcases hi : op.info with ⟨sym, nm'⟩
  rw [hi] at hs
  dsimp only at hs
  have one := ksp_try X I hs hf h
  obtain ⟨hh, g, d, tt, os⟩ := s
  have L1 : Looks (model prog w) hh (typeOf (.ref x)) (.ref C) := I.type
  have L2 : Looks (model prog w) hh (typeOf b) (.ref C) := hb
  have L3 : Looks (model prog w) hh (fillsNumberSlot (.ref C) nm') true := fills_K X hcd hm hs
  simp only [binaryOp, hi]
  refine wpAny_holding (wpAny_bind ?_)
  unfold binaryOp1
  refine wpAny_bind (L1.at (wpAny_bind (L2.at (wpAny_bind (L3.at ?_)))))
  simp only [BEq.rfl, if_true]
  ksp_lk
  refine wpAny_mono one (fun r s' hr' => ?_) fun _ _ e => e
  obtain ⟨v, rfl, hq⟩ := hr'
  ksp_lk
  exact hq
end
section
variable {X : Cx} {cn : Cn} {W : WX} {pos : Pos}
/-- what the own operator reads, against a plain one's reading t₀ -/
theorem e_binO {op : Operator} {t₀ : R2} {h₀ : MV → MV → MM MV} {tab : List (Str × List Tag × (List MV → MM MV))} {a b : Expr} {f g : EM} (T : OTab X cn W op.info.2 tab) (ho : OpR X (binaryOp op) t₀) (hm : OpM X.K cn t₀ h₀) (ha : JE X cn W a f) (hb : JE X cn W b g) :
    JE X cn W (.BinOp a op b pos) (eBin (oOwn tab h₀) f g) := by
  refine ⟨fun pins s σ H Q I w => ?_⟩
  obtain ⟨r, m, e, hs, hr, w⟩ := w
  refine wpAny_BinOp (binT (R := fun x y H2 => ∃ r2 m2 p q, HR X.K cn r2 m2 H2 ∧ RV X.K cn r2 H2 p x ∧ RV X.K cn r2 H2 q y ∧ Wp (oOwn tab h₀ p q m2) (PostE X.K cn r2 H2 Q) (PostX X.K cn W σ r2 H2)) ha hb I ⟨r, m, e, hs, hr, w.bind.mono (fun x m1 w1 r1 H1 v1 x1 hr1 hv1 => ?_) fun _ _ p => p⟩ fun v u s2 x y H2 I2 rx ry q => ?_)
  · refine ⟨r1, m1, e, hs.ext x1, hr1, w1.bind.mono (fun y m2 w2 r2 H2 v2 x2 hr2 hv2 => ?_) fun _ _ p => p.ext x1⟩
    exact ⟨r2, m2, x, y, hr2, hv1.ext x2, hv2, w2.mono (fun _ _ p => p.ext (x1.trans x2)) fun _ _ p => PostX.ext p (x1.trans x2)⟩
  · obtain ⟨r2, m2, p, q, hr2, hp, hq, w2⟩ := q
    unfold oOwn at w2
    cases e1 : clsM m2 p with
    | none => rw [e1] at w2; exact ho pins s2 σ H2 x y v u Q I2 rx ry (hm r2 m2 H2 p q x y Q _ hr2 hp hq w2)
    | some cf =>
      obtain ⟨c, fs⟩ := cf
      rw [e1] at w2
      simp only at w2
      cases e2 : tab.lookup c with
      | none => rw [e2] at w2; exact w2.elim
      | some th =>
        obtain ⟨ts, h⟩ := th
        rw [e2] at w2
        cases e3 : tagM m2 q with
        | none => rw [e3] at w2; exact w2.elim
        | some t =>
          rw [e3] at w2
          simp only at w2
          cases e4 : ts.contains t with
          | false => rw [e4] at w2; exact w2.elim
          | true =>
            rw [e4, if_pos rfl] at w2
            obtain ⟨fa, k1, k2, k3, k4⟩ := T.get e2
            obtain ⟨pa, d, vs, rfl, hrd, hfs⟩ := cls_at hr2 hp e1
            obtain rfl : v = Value.ref pa := rx
            obtain ⟨dd, z, ne, ob, mA, n', r', qq⟩ := hrd.ok I2.hok
            obtain ⟨rc, hrc, hrc2⟩ := k1.re
            have KX := I2.kIn
            obtain ⟨P, Z, pz, _⟩ := kit_at (cn := cn) rfl I2 hr2 hq ry e3 fun c' ec => by subst ec; exact k3 c' e4
            have LT := Z.ty (model X.prog X.w) _ KX pz
            have fin := wpAny_mono (k4 pins s2 σ H2 [.ref pa, u] [.ref pa, y] Q I2 (.cons rfl (.cons ry .nil)) ⟨r2, m2, [p, q], hr2, .cons hp (.cons hq .nil), w2⟩) (fun _ _ z => ep_back z) fun _ _ z => z
            obtain ⟨od, J, _⟩ := (show ObjM s2.heap pa d (cn c) mA from ⟨ob, n', ne⟩).look
            have hk := k2 t e4
            cases t with
            | b T =>
              have hk' := hk
              unfold othK tagV at hk'
              simp only [Bool.and_eq_true] at hk'
              obtain ⟨⟨h1, h2⟩, h3⟩ := hk'
              obtain ⟨fo, h1⟩ := Option.isSome_iff_exists.mp h1
              obtain ⟨ro, h2⟩ := Option.isSome_iff_exists.mp h2
              exact bin_ownT KX J LT k1.sf k1.me.at_ k1.me.fn hrc hrc2 h1 h2 (beq_iff_eq.mp h3) fin
            | o D =>
              have hk' : ((cn D) == (cn c)) = true := hk
              have eD := beq_iff_eq.mp hk'
              have LT' : PySem.W.Looks (model X.prog X.w) s2.heap (typeOf u) (.ref (cn D)) := LT
              rw [eD] at LT'
              exact bin_ownS KX J LT' k1.sf k1.me.at_ k1.me.fn fin
theorem e_binO2 {op : Operator} {h₀ : OP2} {tab : List (Str × List Tag × (List MV → MM MV))} {a b : Expr} {f g : EM} (T : OTab X cn W op.info.2 tab) (ho : OpR X (binaryOp op) (RM X.K cn h₀)) (ha : JE X cn W a f) (hb : JE X cn W b g) :
    JE X cn W (.BinOp a op b pos) (eBin (oOwn tab (lift2 h₀)) f g) := e_binO T ho opM_of ha hb
end
end Mi
end

section
set_option Elab.async false
set_option linter.all false
set_option maxRecDepth 100000
set_option maxHeartbeats 2000000
namespace Mi
open PySem PySem.Spec PyProof.Rows L2 GenW

/-! ### a generator's run, its consumer's own things: pins that change while it sleeps -/
/-- while the generator sleeps: its consumer's things cp may change (cp' then), things grow -/
structure Slp (P : Program) (w : World) (cp cp' : List (Addr × Obj)) (H H' : Hp) (s s' : Shared) : Prop where
  os : s'.os = s.os
  bare : AllBare s'.gens
  keep : ∀ b o, (∀ p ∈ cp, p.1 ≠ b) → s.heap.get? b = some o → s'.heap.get? b = some o
  grow : ∀ b u, H b = some u → H' b = some u
  new : ∀ b u, H b = none → H' b = some u → s.heap.objs.size ≤ b
  hok : HOk P w H' s'.heap
  pin : ∀ p ∈ cp', s'.heap.get? p.1 = some p.2 ∧ H' p.1 = none ∧ (∀ v, p.2.data ≠ .cell v) ∧ (s.heap.objs.size ≤ p.1 ∨ ∃ q ∈ cp, q.1 = p.1)
/-- none of the generator's own -/
def Ap (X : Cx) (own : List (Addr × Obj)) (a : Addr) : Prop := X.s_0.heap.objs.size ≤ a ∧ (∀ x c, X.env.cells.lookup x = some c → c ≠ a) ∧ ∀ q ∈ own, q.1 ≠ a
def CpOk (X : Cx) (own cp ip : List (Addr × Obj)) : Prop := ∀ p ∈ cp, Ap X own p.1 ∧ ∀ q ∈ ip, q.1 ≠ p.1
/-- the frame with the consumer's things -/
abbrev with_ (X : Cx) (own : List (Addr × Obj)) (xe : List (Addr × Obj) → Value → Shared → Prop) (cp : List (Addr × Obj)) : Cx := { X with pn := own ++ cp, xe := xe cp }
theorem Inv.with_ {X : Cx} {own cp cp' ip ip' : List (Addr × Obj)} {xe : List (Addr × Obj) → Value → Shared → Prop} {σ : L2.St} {H : Hp} {s : Shared} (I : Inv (with_ X own xe cp) ip σ H s)
    (h : ∀ p ∈ (own ++ cp') ++ ip', s.heap.get? p.1 = some p.2 ∧ H p.1 = none ∧ p.1 ≠ X.env.locals ∧ p.1 ∉ X.fs ∧ ∀ v, p.2.data ≠ .cell v) : Inv (Mi.with_ X own xe cp') ip' σ H s :=
  ⟨⟨I.ok.mod, I.ok.kind, I.ok.glob, I.ok.blt, I.ok.above, I.ok.inj, I.ok.has, I.ok.cab, I.ok.hd, I.ok.frames, I.ok.stk, I.ok.exf, I.ok.bs, I.ok.bsz, I.ok.noex, I.ok.exfs, I.ok.funs, I.ok.frf⟩, I.os, I.bare, I.base, I.loc, I.cell, I.free, I.freeC, h, I.hok, I.len⟩
theorem woken {X : Cx} {own cp cp' ip : List (Addr × Obj)} {xe : List (Addr × Obj) → Value → Shared → Prop} {σ : L2.St} {H H' : Hp} {s s' : Shared} (I : Inv (with_ X own xe cp) ip σ H s) (h : CpOk X own cp ip) (z : Slp X.prog X.w cp cp' H H' s s') : Inv (with_ X own xe cp') ip σ H' s' ∧ CpOk X own cp' ip := by
  have I0 : Inv (with_ X own xe []) ip σ H s := Inv.with_ I fun p hp => I.pin p ((List.mem_append.mp hp).elim (fun q => List.mem_append_left _ (List.mem_append_left _ (by rw [List.append_nil] at q; exact q))) fun q => List.mem_append_right _ q)
  have nc : ∀ b, b ∉ cp.map (·.1) → ∀ p ∈ cp, p.1 ≠ b := fun b hb p hp e => hb (List.mem_map.mpr ⟨p, hp, e⟩)
  have J : Inv (with_ X own xe []) ip σ H' s' := by
    refine I0.call' (ch := cp.map (·.1)) z.os ⟨fun b o q _ _ hx => z.keep b o (nc b hx) q, fun b o q _ _ hx => ⟨o.slots, z.keep b o (nc b hx) q⟩, fun b o q n hx => ?_, fun b o q hx => ⟨o, z.keep b o (nc b hx) q⟩, fun b xs q => z.grow b _ q, fun b o u q => z.grow b _ q, fun b ps q => ⟨#[], by rw [z.grow b _ q]; simp⟩⟩ z.hok z.bare fun b hb => ?_
    · cases e : H' b with
      | none => rfl
      | some u => exact absurd (Nat.lt_of_lt_of_le (Heap.lt_size q) (z.new b u n e)) (Nat.lt_irrefl _)
    · obtain ⟨p, hp, rfl⟩ := List.mem_map.mp hb
      obtain ⟨⟨a1, a2, a3⟩, a4⟩ := h p hp
      have hpin := I.pin p (List.mem_append_left _ (List.mem_append_right _ hp))
      refine ⟨.inr a1, hpin.2.2.1, a2, fun q hq => (List.mem_append.mp hq).elim (fun hq => a3 q ?_) (a4 q)⟩
      have hq : q ∈ own ++ [] := hq
      rw [List.append_nil] at hq
      exact hq
  have young : ∀ p ∈ cp', (p.1 ≠ X.env.locals ∧ p.1 ∉ X.fs) ∧ Ap X own p.1 ∧ ∀ q ∈ ip, q.1 ≠ p.1 := fun p hp => by
    rcases (z.pin p hp).2.2.2 with hs | ⟨q, hq, e⟩
    · refine ⟨⟨Nat.ne_of_gt (Nat.lt_of_lt_of_le I.lt hs), I.nofs hs⟩, ⟨Nat.le_trans I.sz hs, fun x c e y => ?_, fun q hq y => ?_⟩, fun q hq y => ?_⟩
      · obtain ⟨v, k⟩ := I.cell x c e
        exact absurd (Nat.lt_of_lt_of_le k.lt (by rw [y]; exact hs)) (Nat.lt_irrefl _)
      · have k := (I.pin q (List.mem_append_left _ (List.mem_append_left _ hq))).1
        exact absurd (Nat.lt_of_lt_of_le (Heap.lt_size k) (by rw [y]; exact hs)) (Nat.lt_irrefl _)
      · have k := (I.pin q (List.mem_append_right _ hq)).1
        exact absurd (Nat.lt_of_lt_of_le (Heap.lt_size k) (by rw [y]; exact hs)) (Nat.lt_irrefl _)
    · rw [← e]
      obtain ⟨_, _, p2, p3, _⟩ := I.pin q (List.mem_append_left _ (List.mem_append_right _ hq))
      exact ⟨⟨p2, p3⟩, h q hq⟩
  refine ⟨Inv.with_ J fun p hp => ?_, fun p hp => (young p hp).2⟩
  rcases List.mem_append.mp hp with hp | hp
  · rcases List.mem_append.mp hp with hp | hp
    · exact J.pin p (List.mem_append_left _ (List.mem_append_left _ hp))
    · obtain ⟨q1, q2, q3, _⟩ := z.pin p hp
      exact ⟨q1, q2, (young p hp).1.1, (young p hp).1.2, q3⟩
  · exact J.pin p (List.mem_append_right _ hp)
/-! ### what a generator's statement gives: what it hands out, where it ends -/
abbrev GO := List MV × SO
abbrev GMd := ME → MH → GO
structure GD where
  nx : List MV → ME → MH → Prop
  rt : List MV → MV → MH → Prop
  bk : List MV → ME → MH → Prop := fun _ _ _ => False
  ct : List MV → ME → MH → Prop := fun _ _ _ => False
/-- a run: its frame, the heap that it began with, what it may hand out, which exceptions may leave it, what the consumer makes of what is out -/
structure GX where
  X : Cx
  own : List (Addr × Obj)
  xe : List (Addr × Obj) → Value → Shared → Prop
  cn : Cn
  r0 : Rho
  H0 : Hp
  PV : MV → Prop
  Dx : MX → MH → Prop
  pr : List MV → List (Addr × Obj) → Rho → Hp → Prop
  mono : ∀ outs cp r H r' H', pr outs cp r H → Ext r H r' H' → pr outs cp r' H'
def XKof (K : PySem.W.Frag) (cn : Cn) (r0 : Rho) (H0 : Hp) (Dx : MX → MH → Prop) : XK := fun cls d H => ∃ r m x, Ext r0 H0 r H ∧ HR K cn r m H ∧ ER K cn r H x cls d ∧ Dx x m
abbrev GX.Xc (G : GX) (cp : List (Addr × Obj)) : Cx := with_ G.X G.own G.xe cp
abbrev GX.E (G : GX) : XK := XKof G.X.K G.cn G.r0 G.H0 G.Dx
abbrev GX.W (G : GX) : WX := WB G.E
def GOk (G : GX) (D : GD) (outs : List MV) (o : GO) : Prop := (∀ a ∈ o.1, G.PV a) ∧ outs.length + o.1.length ≤ sizeLine ∧ match o.2 with
  | .nx e m => D.nx (outs ++ o.1) e m
  | .rt a m => D.rt (outs ++ o.1) a m
  | .bk e m => D.bk (outs ++ o.1) e m
  | .ct e m => D.ct (outs ++ o.1) e m
  | .exc x _ m => G.Dx x m
  | .bad => False
/-- running: outs is out -/
def GIq (G : GX) (ip : List (Addr × Obj)) (outs : List MV) (r : Rho) (σ : L2.St) (H : Hp) (s : Shared) : Prop := ∃ cp, G.pr outs cp r H ∧ Inv (G.Xc cp) ip σ H s ∧ CpOk G.X G.own cp ip
def GF (G : GX) (D : GD) (outs : List MV) (r : Rho) (m : MH) (σ : L2.St) (H : Hp) : Flow → Prop
  | .next => ∃ e, SR G.X.K G.cn r H e σ ∧ D.nx outs e m
  | .brk => ∃ e, SR G.X.K G.cn r H e σ ∧ D.bk outs e m
  | .cont => ∃ e, SR G.X.K G.cn r H e σ ∧ D.ct outs e m
  | .ret u => ∃ a v, RelV v u ∧ RV G.X.K G.cn r H a v ∧ D.rt outs a m
def GSPq (G : GX) (rb : Rho) (Hb : Hp) (ip : List (Addr × Obj)) (D : GD) (outs : List MV) (f : Flow) (s : Shared) : Prop := ∃ r m σ H, Ext rb Hb r H ∧ HR G.X.K G.cn r m H ∧ GIq G ip outs r σ H s ∧ GF G D outs r m σ H f
/-- an item is handed out -/
def GYq (G : GX) : Protocol := fun n s₀ v s kap => ∃ outs a x ip cp r m σ H, n + 1 + outs.length = sizeLine ∧ RelV x v ∧ RV G.X.K G.cn r H a x ∧ HR G.X.K G.cn r m H ∧ Ext G.r0 G.H0 r H ∧ G.PV a ∧ G.pr outs cp r H ∧ Inv (G.Xc cp) ip σ H s ∧ CpOk G.X G.own cp ip ∧
  ∀ s' cp' H', Slp G.X.prog G.X.w cp cp' H H' s s' → G.pr (outs ++ [a]) cp' r H' → kap (.send .none) s'
structure GCq (X : Cx) (A : Around) (c : Code) (fs : List Frame) (gd : Bool → Bool) : Prop where
  over : A.over c fs = X.A
  split : splitAtGen fs = none
  guard : fs.any Frame.guarded = false
  gd : gd false = false
structure GKq (G : GX) (rb : Rho) (Hb : Hp) (ip : List (Addr × Obj)) (A : Around) (R : GenEnd) (c : Code) (fs : List Frame) (K : Flow → Sem PySem.Fin) (J : Value → Sem PySem.Fin) (D : GD) : Prop where
  ok : ∀ (n : Nat) (outs : List MV) (s₀ s : Shared) (f : Flow), n + outs.length = sizeLine → GSPq G rb Hb ip D outs f s → Seg (model G.X.prog G.X.w) A R (GYq G) n s₀ c (K f) fs s
  exc : ∀ (n : Nat) (s₀ : Shared) (e : Value) (s : Shared) (cp : List (Addr × Obj)), (∃ outs r H, G.pr outs cp r H) → G.xe cp e s → Seg (model G.X.prog G.X.w) A R (GYq G) n s₀ c (J e) fs s
theorem GSPq.base {G : GX} {r r' : Rho} {H H' : Hp} {ip : List (Addr × Obj)} {D : GD} {outs : List MV} {f : Flow} {s : Shared} (h : GSPq G r' H' ip D outs f s) (x : Ext r H r' H') : GSPq G r H ip D outs f s :=
  let ⟨r, m, σ, H, h1, h2⟩ := h; ⟨r, m, σ, H, x.trans h1, h2⟩
theorem GKq.base {G : GX} {r r' : Rho} {H H' : Hp} {ip : List (Addr × Obj)} {A : Around} {R : GenEnd} {c : Code} {fs : List Frame} {K : Flow → Sem PySem.Fin} {J : Value → Sem PySem.Fin} {D : GD} (k : GKq G r H ip A R c fs K J D) (x : Ext r H r' H') : GKq G r' H' ip A R c fs K J D :=
  ⟨fun n outs s₀ s f hn q => k.ok n outs s₀ s f hn (q.base x), k.exc⟩
/-- a statement (or suite), run by t -/
def GSq (G : GX) (t : Sem Flow) (g : GMd) : Prop :=
  ∀ (A : Around) (ip : List (Addr × Obj)) (R : GenEnd) (n : Nat) (outs : List MV) (s₀ : Shared) (c : Code) (fs : List Frame) (K : Flow → Sem PySem.Fin) (J : Value → Sem PySem.Fin) (gd : Bool → Bool) (lv : List Value → List Value) (s : Shared) (σ : L2.St) (H : Hp) (r : Rho) (m : MH) (e : ME) (D : GD),
    GCq G.X A c fs gd → n + outs.length = sizeLine → GKq G r H ip A R c fs K J D → GIq G ip outs r σ H s → Ext G.r0 G.H0 r H → SR G.X.K G.cn r H e σ → HR G.X.K G.cn r m H → GOk G D outs (g e m) →
    Seg (model G.X.prog G.X.w) A R (GYq G) n s₀ c (t.wrap K J gd lv) fs s
abbrev GSt (G : GX) (st : Stmt) (g : GMd) : Prop := GSq G (exec st G.X.env) g
abbrev GSts (G : GX) (st : List Stmt) (g : GMd) : Prop := GSq G (execs st G.X.env) g
def gPl (g : SM) : GMd := fun e m => ([], g e m)
/-- the ends that a plain statement is run for -/
def endsOf (G : GX) (D : GD) (outs : List MV) (r : Rho) (H : Hp) : Ends where
  nx := fun σ' H' => ∃ r' m' e', Ext r H r' H' ∧ HR G.X.K G.cn r' m' H' ∧ SR G.X.K G.cn r' H' e' σ' ∧ D.nx outs e' m'
  bk := fun σ' H' => ∃ r' m' e', Ext r H r' H' ∧ HR G.X.K G.cn r' m' H' ∧ SR G.X.K G.cn r' H' e' σ' ∧ D.bk outs e' m'
  ct := fun σ' H' => ∃ r' m' e', Ext r H r' H' ∧ HR G.X.K G.cn r' m' H' ∧ SR G.X.K G.cn r' H' e' σ' ∧ D.ct outs e' m'
  rt := fun v H' => ∃ r' m' a, Ext r H r' H' ∧ HR G.X.K G.cn r' m' H' ∧ RV G.X.K G.cn r' H' a v ∧ D.rt outs a m'
theorem ends_of {G : GX} {D : GD} {outs : List MV} {r : Rho} {H : Hp} {o : SO} (x0 : Ext G.r0 G.H0 r H) (h : GOk G D outs ([], o)) : PostS G.X.K G.cn G.W (endsOf G D outs r H) r H o := by
  obtain ⟨_, _, h⟩ := h
  rw [List.append_nil] at h
  cases o with
  | nx e m => exact fun r' H' s' x hr hs => ⟨r', m, e, x, hr, hs, h⟩
  | bk e m => exact fun r' H' s' x hr hs => ⟨r', m, e, x, hr, hs, h⟩
  | ct e m => exact fun r' H' s' x hr hs => ⟨r', m, e, x, hr, hs, h⟩
  | rt a m => exact fun r' H' v x hr hv => ⟨r', m, a, x, hr, hv, h⟩
  | exc x e m => exact fun r' H' s' cls d y hr hs he => ⟨r', m, x, x0.trans y, hr, he, h⟩
  | bad => exact h
theorem sp_gspq {G : GX} {D : GD} {ip cp : List (Addr × Obj)} {outs : List MV} {r : Rho} {H : Hp} {f : Flow} {s : Shared} (hp : G.pr outs cp r H) (hc : CpOk G.X G.own cp ip) (h : SP (G.Xc cp) ip (endsOf G D outs r H) f s) : GSPq G r H ip D outs f s := by
  cases f with
  | next => obtain ⟨σ', H', I, r', m', e', x, hr, hs, q⟩ := h; exact ⟨r', m', σ', H', x, hr, ⟨cp, G.mono _ _ _ _ _ _ hp x, I, hc⟩, e', hs, q⟩
  | brk => obtain ⟨σ', H', I, r', m', e', x, hr, hs, q⟩ := h; exact ⟨r', m', σ', H', x, hr, ⟨cp, G.mono _ _ _ _ _ _ hp x, I, hc⟩, e', hs, q⟩
  | cont => obtain ⟨σ', H', I, r', m', e', x, hr, hs, q⟩ := h; exact ⟨r', m', σ', H', x, hr, ⟨cp, G.mono _ _ _ _ _ _ hp x, I, hc⟩, e', hs, q⟩
  | ret u => obtain ⟨v, σ', H', I, rv, r', m', a, x, hr, hv, q⟩ := h; exact ⟨r', m', σ', H', x, hr, ⟨cp, G.mono _ _ _ _ _ _ hp x, I, hc⟩, a, v, rv, hv, q⟩
section
variable {G : GX} {st : Stmt} {rest : List Stmt} {pos yp : Pos}
theorem gq_pl {gs : SM} (h : ∀ cp, JS (G.Xc cp) G.cn G.W st gs) : GSt G st (gPl gs) := by
  intro A ip R n outs s₀ c fs K J gd lv s σ H r m e D g hn k hI x0 hs hr ho
  obtain ⟨cp, hp, I, hc⟩ := hI
  refine seg_wrap ?_
  rw [g.over]
  exact wpAny_mono ((h cp).run _ s σ H (endsOf G D outs r H) I ⟨r, m, e, hs, hr, ends_of x0 ho⟩) (fun f s' q => k.ok n outs s₀ s' f hn (sp_gspq hp hc q)) fun x s' hx => k.exc n s₀ x s' cp ⟨_, _, _, by assumption⟩ hx
theorem gq_pls {gs : SM} (h : ∀ cp, JSs (G.Xc cp) G.cn G.W rest gs) : GSts G rest (gPl gs) := by
  intro A ip R n outs s₀ c fs K J gd lv s σ H r m e D g hn k hI x0 hs hr ho
  obtain ⟨cp, hp, I, hc⟩ := hI
  refine seg_wrap ?_
  rw [g.over]
  exact wpAny_mono ((h cp).run _ s σ H (endsOf G D outs r H) I ⟨r, m, e, hs, hr, ends_of x0 ho⟩) (fun f s' q => k.ok n outs s₀ s' f hn (sp_gspq hp hc q)) fun x s' hx => k.exc n s₀ x s' cp ⟨_, _, _, by assumption⟩ hx
def gNilQ : GMd := fun e m => ([], .nx e m)
theorem gq_nil : GSts G [] gNilQ := by
  intro A ip R n outs s₀ c fs K J gd lv s σ H r m e D g hn k hI x0 hs hr ho
  refine seg_execs_nil (k.ok n outs s₀ s .next hn ⟨r, m, σ, H, .refl, hr, hI, e, hs, ?_⟩)
  have := ho.2.2
  rw [show outs ++ (gNilQ e m).1 = outs from List.append_nil _] at this
  exact this
def gThen (o : GO) (k : ME → MH → GO) : GO := match o with
  | (ys, .nx e m) => (ys ++ (k e m).1, (k e m).2)
  | o => o
def gSeqQ (g h : GMd) : GMd := fun e m => gThen (g e m) h
/-- the first part of a sequence, by itself -/
theorem gok_then {D : GD} {outs : List MV} {o : GO} {k : ME → MH → GO} (h : GOk G D outs (gThen o k)) : GOk G { D with nx := fun outs' e' m' => GOk G D outs' (k e' m') } outs o := by
  obtain ⟨ys, so⟩ := o
  cases so with
  | nx e m =>
    obtain ⟨h1, h2, h3⟩ := h
    refine ⟨fun a ha => h1 a (List.mem_append_left _ ha), ?_, fun a ha => h1 a (List.mem_append_right _ ha), ?_, ?_⟩
    · have : (gThen (ys, SO.nx e m) k).1.length = ys.length + (k e m).1.length := List.length_append
      simp only at h2 ⊢
      omega
    · have : (gThen (ys, SO.nx e m) k).1.length = ys.length + (k e m).1.length := List.length_append
      simp only [List.length_append] at h2 ⊢
      omega
    · have e3 : outs ++ (gThen (ys, SO.nx e m) k).1 = (outs ++ ys) ++ (k e m).1 := (List.append_assoc _ _ _).symm
      rw [e3] at h3
      exact h3
  | _ => exact h
theorem gq_cons {g h : GMd} (a : GSt G st g) (b : GSts G rest h) : GSts G (st :: rest) (gSeqQ g h) := by
  intro A ip R n outs s₀ c fs K J gd lv s σ H r m e D gc hn k hI x0 hs hr ho
  refine seg_execs_cons ?_
  refine a A ip R n outs s₀ c fs _ J gd lv s σ H r m e { D with nx := fun outs' e' m' => GOk G D outs' (h e' m') } gc hn ⟨fun n' outs' s₀' s' f hn' hq => ?_, k.exc⟩ hI x0 hs hr (gok_then ho)
  obtain ⟨r', m', σ', H', x', hr', hI', q⟩ := hq
  cases f with
  | next =>
    obtain ⟨e', hs', q⟩ := q
    exact b A ip R n' outs' s₀' c fs K J gd lv s' σ' H' r' m' e' D gc hn' (k.base x') hI' (x0.trans x') hs' hr' q
  | brk => exact k.ok n' outs' s₀' s' .brk hn' ⟨r', m', σ', H', x', hr', hI', q⟩
  | cont => exact k.ok n' outs' s₀' s' .cont hn' ⟨r', m', σ', H', x', hr', hI', q⟩
  | ret u => exact k.ok n' outs' s₀' s' (.ret u) hn' ⟨r', m', σ', H', x', hr', hI', q⟩
theorem gq_one {g : GMd} (a : GSt G st g) : GSts G [st] (gSeqQ g gNilQ) := gq_cons a gq_nil
/-! ### if -/
def gIfQ (t : ME → MM Bool) (g h : GMd) : GMd := fun e m => match t e m with
  | .ok true m' => g e m'
  | .ok false m' => h e m'
  | .exc x m' => ([], .exc x e m')
  | .bad => ([], .bad)
theorem gq_if {test : Expr} {body orelse : List Stmt} {tf : ME → MM Bool} {g h : GMd} (hc : ∀ cp, JT (G.Xc cp) G.cn G.W test tf) (ha : GSts G body g) (hb : GSts G orelse h) : GSt G (.If test body orelse pos) (gIfQ tf g h) := by
  intro A ip R n outs s₀ c fs K J gd lv s σ H r m e D gc hn k hI x0 hs hr ho
  obtain ⟨cp, hp, I, hcp⟩ := hI
  rw [exec_If]
  show Seg _ _ _ _ _ _ _ (.at pos fun _ => ((isTrue test G.X.env (eval test G.X.env)) >>= fun b => if b = true then execs body G.X.env else execs orelse G.X.env).wrap K J gd lv) _ _
  refine seg_at (seg_bind_wrap ?_)
  rw [gc.over]
  refine wpAny_mono ((hc cp).run _ s σ H (fun b H' => ∃ r' m', Ext r H r' H' ∧ HR G.X.K G.cn r' m' H' ∧ GOk G D outs (if b then g e m' else h e m')) I ⟨r, m, e, hs, hr, ?_⟩) (fun b s' q => ?_) fun x s' hx => k.exc n s₀ x s' cp ⟨_, _, _, by assumption⟩ hx
  · unfold gIfQ at ho
    cases q : tf e m with
    | bad => rw [q] at ho; exact ho.2.2
    | exc x m' =>
      rw [q] at ho
      exact fun r' H' cls d y hr' he => ⟨r', m', x, x0.trans y, hr', he, ho.2.2⟩
    | ok b m' =>
      rw [q] at ho
      intro r' H' y hr'
      refine ⟨r', m', y, hr', ?_⟩
      cases b with
      | true => exact ho
      | false => exact ho
  · obtain ⟨H', I', r', m', x, hr', q⟩ := q
    have hI' : GIq G ip outs r' σ H' s' := ⟨cp, G.mono _ _ _ _ _ _ hp x, I', hcp⟩
    cases b with
    | true =>
      rw [if_pos rfl]
      exact ha A ip R n outs s₀ c fs K J gd lv s' σ H' r' m' e D gc hn (k.base x) hI' (x0.trans x) (hs.ext x) hr' (by simpa using q)
    | false =>
      rw [if_neg Bool.false_ne_true]
      exact hb A ip R n outs s₀ c fs K J gd lv s' σ H' r' m' e D gc hn (k.base x) hI' (x0.trans x) (hs.ext x) hr' (by simpa using q)
/-! ### yield -/
def gYieldQ (f : EM) : GMd := fun e m => match f e m with
  | .ok a m' => ([a], .nx e m')
  | .exc x m' => ([], .exc x e m')
  | .bad => ([], .bad)
theorem gq_yield {a : Expr} {f : EM} (he : ∀ cp, JE (G.Xc cp) G.cn G.W a f) (hco : G.X.env.scope.isCoroutine = false := by rfl) (hi : interactive G.X.env = false := by rfl) : GSt G (.Expr (.Yield (some a) yp) pos) (gYieldQ f) := by
  intro A ip R n outs s₀ c fs K J gd lv s σ H r m e D gc hn k hI x0 hs hr ho
  obtain ⟨cp, hp, I, hcp⟩ := hI
  by_cases hlt : outs.length < sizeLine
  · obtain ⟨n, rfl⟩ : ∃ m, n = m + 1 := ⟨n - 1, by omega⟩
    refine seg_Expr_Yield gc.split gc.gd gc.guard ?_ hco hi
    rw [gc.over]
    refine wpAny_mono ((he cp).run _ s σ H (fun x H' => ∃ r' m' b, Ext r H r' H' ∧ HR G.X.K G.cn r' m' H' ∧ RV G.X.K G.cn r' H' b x ∧ GOk G D outs ([b], .nx e m')) I ⟨r, m, e, hs, hr, ?_⟩) (fun v s' q => ?_) fun x s' hx => k.exc _ s₀ x s' cp ⟨_, _, _, by assumption⟩ hx
    · unfold gYieldQ at ho
      cases q : f e m with
      | bad => rw [q] at ho; exact ho.2.2
      | exc x m' =>
        rw [q] at ho
        exact fun r' H' cls d y hr' he => ⟨r', m', x, x0.trans y, hr', he, ho.2.2⟩
      | ok b m' =>
        rw [q] at ho
        exact fun r' H' v y hr' hv => ⟨r', m', b, y, hr', hv, ho⟩
    · obtain ⟨x, H', I', rx, r', m', b, y, hr', hv, o1, o2, o3⟩ := q
      have hp' := G.mono _ _ _ _ _ _ hp y
      intro kap hk
      refine ⟨outs, b, x, ip, cp, r', m', σ, H', hn, rx, hv, hr', x0.trans y, o1 b (List.mem_singleton.mpr rfl), hp', I', hcp, fun s'' cp' H'' z hp2 => hk .none s'' ?_⟩
      obtain ⟨I2, hc2⟩ := woken I' hcp z
      have y2 : Ext r' H' r' H'' := .grow0 z.grow
      refine k.ok n (outs ++ [b]) s'' s'' .next ?_ ⟨r', m', σ, H'', y.trans y2, hr'.keep y2 z.grow, ⟨cp', hp2, I2, hc2⟩, e, (hs.ext y).ext y2, o3⟩
      rw [List.length_append, List.length_singleton]; omega
  · -- no more may be handed out
    have hz : n = 0 := by omega
    have : ∀ b m', f e m ≠ .ok b m' := fun b m' q => by
      unfold gYieldQ at ho
      rw [q] at ho
      have := ho.2.1
      simp only [List.length_singleton] at this
      omega
    rw [exec_Expr G.X.env _ pos hi rfl]
    show Seg _ _ _ _ n s₀ c (.at pos fun _ => ((eval a G.X.env >>= fun v => (standAt yp >>= fun _ => yieldOut G.X.env v)) >>= fun x => dropValue (.Yield (some a) yp) pos x).wrap K J gd lv) fs s
    refine seg_at (segw_bind2 ?_)
    rw [gc.over]
    refine wpAny_mono ((he cp).run _ s σ H (fun x H' => False) I ⟨r, m, e, hs, hr, ?_⟩) (fun v s' q => ?_) fun x s' hx => k.exc _ s₀ x s' cp ⟨_, _, _, by assumption⟩ hx
    · unfold gYieldQ at ho
      cases q : f e m with
      | bad => rw [q] at ho; exact ho.2.2
      | exc x m' =>
        rw [q] at ho
        exact fun r' H' cls d y hr' he => ⟨r', m', x, x0.trans y, hr', he, ho.2.2⟩
      | ok b m' => exact absurd q (this b m')
    · obtain ⟨_, _, _, _, q⟩ := q
      exact q.elim
/-! ### for -/
def gLoop (o : GO) (k : ME → MH → GO) : GO := match o with
  | (ys, .nx e m) => (ys ++ (k e m).1, (k e m).2)
  | (ys, .ct e m) => (ys ++ (k e m).1, (k e m).2)
  | (ys, .bk e m) => (ys, .nx e m)
  | o => o
theorem gok_app {D : GD} {outs ys : List MV} {so : SO} {e : ME} {m : MH} {k : ME → MH → GO} {D' : GD} (h : GOk G D outs (ys ++ (k e m).1, (k e m).2)) : (∀ a ∈ ys, G.PV a) ∧ outs.length + ys.length ≤ sizeLine ∧ GOk G D (outs ++ ys) (k e m) := by
  obtain ⟨h1, h2, h3⟩ := h
  simp only [List.length_append] at h2
  refine ⟨fun a ha => h1 a (List.mem_append_left _ ha), by omega, fun a ha => h1 a (List.mem_append_right _ ha), by rw [List.length_append]; omega, ?_⟩
  simp only [← List.append_assoc] at h3
  exact h3
theorem gok_loop {D : GD} {outs : List MV} {o : GO} {k : ME → MH → GO} (h : GOk G D outs (gLoop o k)) :
    GOk G { D with nx := fun outs' e' m' => GOk G D outs' (k e' m'), ct := fun outs' e' m' => GOk G D outs' (k e' m'), bk := D.nx } outs o := by
  obtain ⟨ys, so⟩ := o
  cases so with
  | nx e m => exact gok_app (so := .bad) (D' := D) h
  | ct e m => exact gok_app (so := .bad) (D' := D) h
  | _ => exact h
def forGo (nx : Nat → MH → Option (Option MV)) (g : GM) (body : GMd) : Nat → Nat → GMd
  | fuel, i => fun e m => match nx i m with
    | none => ([], .bad)
    | some none => ([], .nx e m)
    | some (some a) => (match fuel with
      | 0 => ([], .bad)
      | k + 1 => (match g a e with
        | none => ([], .bad)
        | some e1 => gLoop (body e1 m) (forGo nx g body k (i + 1))))
def forLo (g : GM) (body : GMd) : List MV → GMd
  | [] => fun e m => ([], .nx e m)
  | a :: xs => fun e m => match g a e with
    | none => ([], .bad)
    | some e1 => gLoop (body e1 m) (forLo g body xs)
theorem forGo_fx {g : GM} {body : GMd} {xs : List MV} : ∀ (k i : Nat) (e : ME) (m : MH), k + i = xs.length → forGo (nxt (.fx xs)) g body k i e m = forLo g body (xs.drop i) e m
  | 0, i, e, m, h => by
    have h1 : xs[i]? = none := List.getElem?_eq_none (by omega)
    have h2 : xs.drop i = [] := List.drop_eq_nil_of_le (by omega)
    unfold forGo
    simp only [nxt, h1, h2, forLo]
  | k + 1, i, e, m, h => by
    have hi : i < xs.length := by omega
    have h1 : xs[i]? = some xs[i] := List.getElem?_eq_getElem hi
    have h2 : xs.drop i = xs[i] :: xs.drop (i + 1) := List.drop_eq_getElem_cons hi
    have h3 : forGo (nxt (.fx xs)) g body k (i + 1) = forLo g body (xs.drop (i + 1)) := funext fun e => funext fun m => forGo_fx k (i + 1) e m (by omega)
    unfold forGo
    simp only [nxt, h1, h2, forLo, h3]
def forSo (sr : Src) (g : GM) (body : GMd) : GMd := match sr with
  | .fx xs => forLo g body xs
  | .lv n => fun e m => forGo (nxt (.lv n)) g body (lenS m (.lv n)) 0 e m
theorem forSo_G {sr : Src} {g : GM} {body : GMd} {e : ME} {m : MH} : forSo sr g body e m = forGo (nxt sr) g body (lenS m sr) 0 e m := by
  cases sr with
  | fx xs =>
    have := (forGo_fx (g := g) (body := body) (xs := xs) xs.length 0 e m (by omega))
    rw [List.drop_zero] at this
    exact this.symm
  | lv n => rfl
def gForQ (src : ME → MM Src) (g : GM) (body : GMd) : GMd := fun e m => match src e m with
  | .ok sr m1 => forSo sr g body e m1
  | .exc x m1 => ([], .exc x e m1)
  | .bad => ([], .bad)
theorem GIq.drop {ip ip2 : List (Addr × Obj)} {outs : List MV} {r : Rho} {σ : L2.St} {H : Hp} {s : Shared} (h : GIq G (ip ++ ip2) outs r σ H s) : GIq G ip outs r σ H s := by
  obtain ⟨cp, hp, I, hc⟩ := h
  exact ⟨cp, hp, I.pins_of fun p hq => I.pin p (List.mem_append_right _ (List.mem_append_left _ hq)), fun p hq => ⟨(hc p hq).1, fun q hq2 => (hc p hq).2 q (List.mem_append_left _ hq2)⟩⟩
theorem GSPq.drop {rb : Rho} {Hb : Hp} {ip ip2 : List (Addr × Obj)} {D : GD} {outs : List MV} {f : Flow} {s : Shared} (h : GSPq G rb Hb (ip ++ ip2) D outs f s) : GSPq G rb Hb ip D outs f s :=
  let ⟨r, m, σ, H, h1, h2, h3, h4⟩ := h; ⟨r, m, σ, H, h1, h2, h3.drop, h4⟩
theorem gcq_loop {X : Cx} {A : Around} {c c' : Code} {fs : List Frame} {gd : Bool → Bool} {k : Result → Sem PySem.Fin} {l kp : List Value} {p : Pos} (g : GCq X A c fs gd) (hw : c'.weight = 0) (hu : c'.cUnits = 0) :
    GCq X A c' (.ret k none (gd false) l c p kp :: fs) id where
  over := (over_loop hw hu).trans g.over
  split := by
    show (splitAtGen fs).map _ = none
    rw [g.split]; rfl
  guard := by
    show (gd false || fs.any Frame.guarded) = false
    rw [g.gd, g.guard]; rfl
  gd := rfl
/-- an exception leaves the loop's code -/
theorem seg_cameBackQ {rb : Rho} {Hb : Hp} {ip : List (Addr × Obj)} {A : Around} {R : GenEnd} {c : Code} {fs : List Frame} {K : Flow → Sem PySem.Fin} {J : Value → Sem PySem.Fin} {gd : Bool → Bool} {lv : List Value → List Value} {D : GD} {n : Nat} {s₀ s : Shared} {e : Value}
    (g : GCq G.X A c fs gd) (k : GKq G rb Hb ip A R c fs K J D) {cp : List (Addr × Obj)} (hp : ∃ outs r H, G.pr outs cp r H) (h : cameBackBy (model G.X.prog G.X.w) G.X.A G.X.env (G.xe cp) e s) :
    Seg (model G.X.prog G.X.w) A R (GYq G) n s₀ c (((Sem.raise e : Sem Flow).onRaise (cameBack G.X.env)).wrap K J gd lv) fs s := by
  show Seg _ _ _ _ _ _ _ (((cameBack G.X.env e).bind fun _ => (Sem.raise e : Sem Flow)).wrap K J gd lv) _ _
  rw [Sem.bind_eq_wrap, Sem.wrap_wrap]
  refine seg_wrap ?_
  rw [g.over]
  exact wpAny_mono h (fun _ s' hx => k.exc n s₀ e s' cp hp hx) fun x s' hx => k.exc n s₀ x s' cp hp hx
theorem gq_for {tg iter : Expr} {body : List Stmt} {src : ME → MM Src} {g : GM} {ts : List Nat} {hb : GMd} (hp : ∀ cp, PassesOwn (model G.X.prog G.X.w) G.X.A G.X.env (G.xe cp)) (hc : G.X.calm = true) (hi : ∀ cp, JI (G.Xc cp) G.cn G.W tg iter src) (hg : ∀ cp, JG (G.Xc cp) G.cn ts tg g) (hB : GSts G body hb)
    (hs : ∀ x, foldedSetIterable iter G.X.env x = pure x := by intro _; rfl) : GSt G (.For tg iter body [] pos) (gForQ src g hb) := by
  intro A ip R n outs s₀ c fs K J gd lv s σ H r m e D gc hn k hI x0 hss hr ho
  obtain ⟨cp, hpr, I, hcp⟩ := hI
  have hp' : ∃ outs r H, G.pr outs cp r H := ⟨_, _, _, hpr⟩
  rw [exec_For]
  refine seg_bind_wrap (wpAny_standAt (seg_bind_wrap ?_))
  rw [gc.over]
  refine wpAny_mono ((hi cp).run _ s σ H (fun J H' => ∃ r' m' sr, Ext r H r' H' ∧ HR G.X.K G.cn r' m' H' ∧ ItJ G.X.K G.cn J r' H' (nxt sr) ∧ GOk G D outs (forGo (nxt sr) g hb (lenS m' sr) 0 e m')) I ⟨r, m, e, hss, hr, ?_⟩) (fun v s1 h1 => ?_) fun x s' hx => k.exc n s₀ x s' cp ⟨_, _, _, by assumption⟩ hx
  · unfold gForQ at ho
    cases q : src e m with
    | bad => rw [q] at ho; exact ho.2.2
    | exc x m' =>
      rw [q] at ho
      exact fun r' H' cls d y hr' he => ⟨r', m', x, x0.trans y, hr', he, ho.2.2⟩
    | ok sr m' =>
      rw [q] at ho
      simp only [forSo_G] at ho
      exact fun r' H' J y hr' hJ => ⟨r', m', sr, y, hr', hJ, ho⟩
  refine seg_bind_wrap (wpAny_of_eq (hs v) ?_)
  refine seg_bind_wrap (wpAny_standAt ?_)
  refine seg_bind_wrap (wpAny_holding ?_)
  rw [gc.over]
  refine wpAny_mono h1 (fun itv s2 h2 => ?_) fun x s' hx => k.exc n s₀ x s' cp ⟨_, _, _, by assumption⟩ hx
  obtain ⟨it, fp, tn, JJ, H2, e2, I2, T, st2, f2, r2, m2, sr, x2, hr2, hJ, ho2⟩ := h2
  subst e2
  refine seg_call fun p => ?_
  have gl := fun (kk : Result → Sem PySem.Fin) => gcq_loop (k := kk) (c' := .forLoop tg (.ref it) body [] G.X.env) (l := lv []) (kp := []) (p := p) gc rfl rfl
  have hst : ∀ b ∈ fp, (b ∈ G.X.ex ∨ G.X.s_0.heap.objs.size ≤ b) ∧ (∀ x c, G.X.env.cells.lookup x = some c → c ≠ b) ∧ ∀ p ∈ G.own ++ ip, p.1 ≠ b := fun b hb => by
    obtain ⟨_, _, _, a1, a2, a3⟩ := f2 b hb
    refine ⟨a1, a2, fun p hq => ?_⟩
    rcases List.mem_append.mp hq with hq | hq
    · exact a3 p (List.mem_append_left _ (List.mem_append_left _ hq))
    · exact a3 p (List.mem_append_right _ hq)
  have loop : ∀ (kf i n : Nat) (outs : List MV) (s₀ s : Shared) (σ : L2.St) (H : Hp) (r : Rho) (m : MH) (e : ME), n + outs.length = sizeLine → GIq G (ip ++ pinsAt fp s.heap) outs r σ H s → tn i s.heap → Ext r2 H2 r H → SR G.X.K G.cn r H e σ → HR G.X.K G.cn r m H → GOk G D outs (forGo (nxt sr) g hb kf i e m) →
      Seg (model G.X.prog G.X.w) A R (GYq G) n s₀ (.forLoop tg (.ref it) body [] G.X.env) ((model G.X.prog G.X.w).den (.forLoop tg (.ref it) body [] G.X.env))
        (.ret (fun r => ((match r with | .ok f => (.pure f : Sem Flow) | .error e => .raise e).onRaise (cameBack G.X.env)).wrap K J gd lv) none (gd false) (lv []) c p [] :: fs) s := by
    have ee : ∀ (n : Nat) (s₀ : Shared) (x : Value) (s' : Shared) (cp : List (Addr × Obj)), (∃ outs r H, G.pr outs cp r H) → G.xe cp x s' → Seg (model G.X.prog G.X.w) A R (GYq G) n s₀ (.forLoop tg (.ref it) body [] G.X.env)
        ((do noteFrame x G.X.env; theTreesLotGoes x : Sem Unit).bind (fun _ => .raise x))
        (.ret (fun r => ((match r with | .ok f => (.pure f : Sem Flow) | .error e => .raise e).onRaise (cameBack G.X.env)).wrap K J gd lv) none (gd false) (lv []) c p [] :: fs) s' := fun n s₀ x s' cp hpr hx => by
      rw [Sem.bind_eq_wrap]
      refine seg_wrap ?_
      rw [(gl _).over]
      refine wpAny_bind (wpAny_mono (hp cp x s' hx) (fun _ s'' hcb => wpAny_theTreesLotGoes ?_) fun y s'' hcb => ?_)
      · exact seg_leaf (.error x) (seg_cameBackQ gc k hpr hcb)
      · exact seg_leaf (.error y) (seg_cameBackQ gc k hpr hcb)
    intro kf
    induction kf using Nat.strongRecOn with
    | ind kf ih =>
      intro i n outs s₀ s σ H r m e hn hI st x2' hs hr ho
      obtain ⟨cp, hpr, I, hcp⟩ := hI
      have hj := hJ r m H i x2'.v hr
      have I' : Inv (G.Xc cp) ip σ H s := I.pins_of fun p hq => I.pin p (List.mem_append_right _ (List.mem_append_left _ hq))
      have hcp' : CpOk G.X G.own cp ip := fun p hq => ⟨(hcp p hq).1, fun q hq2 => (hcp p hq).2 q (List.mem_append_left _ hq2)⟩
      have ncp : ∀ b ∈ fp, ∀ p ∈ cp, p.1 ≠ b := fun b hb p hq z => by
        obtain ⟨o, ho, _⟩ := T.obj _ _ st b hb
        exact (hcp p hq).2 (b, o) (List.mem_append_right _ (mem_pinsAt hb ho)) z.symm
      have ffp : ∀ b ∈ fp, FpOk (G.Xc cp) ip H b := fun b hb => by
        obtain ⟨o, ho, _⟩ := T.obj _ _ st b hb
        obtain ⟨_, q1, q2, q3, _⟩ := I.pin (b, o) (List.mem_append_right _ (List.mem_append_right _ (mem_pinsAt hb ho)))
        obtain ⟨a1, a2, a3⟩ := hst b hb
        refine ⟨q1, q2, q3, a1, a2, fun p hq => ?_⟩
        rcases List.mem_append.mp hq with hq | hq
        · rcases List.mem_append.mp hq with hq | hq
          · exact a3 p (List.mem_append_left _ hq)
          · exact ncp b hb p hq
        · exact a3 p (List.mem_append_right _ hq)
      show Seg _ A R _ n s₀ _ ((forTurn tg (.ref it) body [] G.X.env).onRaise (fun x => do noteFrame x G.X.env; theTreesLotGoes x)) _ s
      unfold forTurn
      rw [Sem.onRaise_eq_wrap]
      refine seg_bind_wrap (wpAny_standAt (seg_bind_wrap (wpAny_onRaise ?_)))
      rw [(gl _).over]
      unfold forGo at ho
      cases q2 : nxt sr i m with
      | none => simp only [q2] at ho; exact ho.2.2.elim
      | some oa =>
        cases oa with
        | none =>
          simp only [q2] at ho hj
          refine thnF (T.done (G.Xc cp) rfl rfl rfl hc i _ s σ H (fun _ _ => False) I' ffp st hj) fun rr s4 ⟨hrr, I4⟩ => ?_
          subst hrr
          have o3 : D.nx (outs ++ []) e m := ho.2.2
          rw [List.append_nil] at o3
          have fin : Seg (model G.X.prog G.X.w) A R (GYq G) n s₀ c (((Sem.pure Flow.next : Sem Flow).onRaise (cameBack G.X.env)).wrap K J gd lv) fs s4 := k.ok n outs s₀ s4 .next hn ⟨r, m, σ, H, x2.trans x2', hr, ⟨cp, hpr, I4, hcp'⟩, e, hs, o3⟩
          refine seg_again (c' := .block [] G.X.env) rfl ?_
          exact seg_leaf (.ok .next) fin
        | some a =>
          simp only [q2] at ho hj
          cases kf with
          | zero => exact ho.2.2.elim
          | succ kf =>
            simp only at ho
            refine thnF (T.item (G.Xc cp) rfl rfl rfl hc i _ s σ H (fun _ _ => False) I' ffp st hj.1) fun rr s4 ⟨u, hrr, h4⟩ => ?_
            subst hrr
            refine seg_bind_wrap ?_
            rw [(gl _).over]
            refine thnF h4 fun _ s5 ⟨x, H5, I5, r5, y5, st5, fr5⟩ => ?_
            obtain ⟨x5, hr5, rx⟩ := hj.2 x H5 y5
            cases q3 : g a e with
            | none => simp only [q3] at ho; exact ho.2.2.elim
            | some e1 =>
              simp only [q3] at ho
              have I5p : Inv (G.Xc cp) (ip ++ pinsAt fp s5.heap) σ H5 s5 := I5.pinned (fun b hb => ⟨fr5 b hb, (ffp b hb).2⟩) (T.obj _ _ st5)
              have hcp5 : CpOk G.X G.own cp (ip ++ pinsAt fp s5.heap) := fun p hq => ⟨(hcp p hq).1, fun q hq2 => by
                rcases List.mem_append.mp hq2 with hq2 | hq2
                · exact (hcp' p hq).2 q hq2
                · exact fun z => ncp q.1 (of_pinsAt hq2).1 p hq z.symm⟩
              refine seg_bind_wrap ?_
              rw [(gl _).over]
              refine wpAny_mono ((hg cp).run _ s5 σ H5 x u (fun σ6 H6 => ∃ r6, Ext r H5 r6 H6 ∧ HR G.X.K G.cn r6 m H6 ∧ SR G.X.K G.cn r6 H6 e1 σ6) I5p r5 ⟨r, m, e, e1, a, hs.ext x5, hr5, rx, q3, fun r4 H4 s4 x4 hr4 hs4 _ => ⟨r4, x4, hr4, hs4⟩⟩) (fun _ s6 q6 => ?_) fun y s' hx => ee n s₀ y s' cp ⟨_, _, _, hpr⟩ hx
              obtain ⟨σ6, H6, I6, r6, x6, hr6, hs6⟩ := q6
              have x26 : Ext r2 H2 r6 H6 := x2'.trans (x5.trans x6)
              rw [Sem.bind_eq_wrap', Sem.wrap_wrap]
              refine hB A (ip ++ pinsAt fp s5.heap) R n outs s₀ _ _ _ _ _ _ s6 σ6 H6 r6 m e1 _ ⟨(gl _).over, (gl _).split, (gl _).guard, rfl⟩ hn ⟨fun n' outs' s₀' s7 f hn' q7 => ?_, fun n' s₀' y s7 cp7 p7 hx => ee n' s₀' y s7 cp7 p7 hx⟩ ⟨cp, G.mono _ _ _ _ _ _ hpr (x5.trans x6), I6, hcp5⟩ (x0.trans (x2.trans x26)) hs6 hr6 (gok_loop ho)
              obtain ⟨r7, m7, σ7, H7, x7, hr7, hI7, q7⟩ := q7
              have again : GIq G (ip ++ pinsAt fp s7.heap) outs' r7 σ7 H7 s7 ∧ tn (i + 1) s7.heap := by
                obtain ⟨cp7, p7, J7, c7⟩ := hI7
                have old : ∀ b ∈ fp, ∀ o, s5.heap.get? b = some o → s7.heap.get? b = some o := fun b hb o e => (J7.pin (b, o) (List.mem_append_right _ (List.mem_append_right _ (mem_pinsAt hb e)))).1
                have sub : ∀ p ∈ ip ++ pinsAt fp s7.heap, p ∈ ip ++ pinsAt fp s5.heap := fun p hq => by
                  rcases List.mem_append.mp hq with hq | hq
                  · exact List.mem_append_left _ hq
                  · obtain ⟨hb, e7⟩ := of_pinsAt hq
                    obtain ⟨o, e5, _⟩ := T.obj _ _ st5 p.1 hb
                    have e6 := old p.1 hb o e5
                    rw [e7] at e6
                    cases e6
                    exact List.mem_append_right _ (mem_pinsAt hb e5)
                refine ⟨⟨cp7, p7, J7.pins_of fun p hq => J7.pin p (List.mem_append_right _ (sub p hq)), fun p hq => ⟨(c7 p hq).1, fun q hq2 => (c7 p hq).2 q (sub q hq2)⟩⟩, T.keep _ _ _ st5 old⟩
              cases f with
              | next =>
                obtain ⟨e7, hs7, o7⟩ := q7
                refine seg_again (c' := .forLoop tg (.ref it) body [] G.X.env) rfl ?_
                exact ih kf (Nat.lt_succ_self _) (i + 1) n' outs' s₀' s7 σ7 H7 r7 m7 e7 hn' again.1 again.2 (x26.trans x7) hs7 hr7 o7
              | cont =>
                obtain ⟨e7, hs7, o7⟩ := q7
                refine seg_again (c' := .forLoop tg (.ref it) body [] G.X.env) rfl ?_
                exact ih kf (Nat.lt_succ_self _) (i + 1) n' outs' s₀' s7 σ7 H7 r7 m7 e7 hn' again.1 again.2 (x26.trans x7) hs7 hr7 o7
              | brk =>
                exact seg_leaf (.ok .next) (k.ok n' outs' s₀' s7 .next hn' ⟨r7, m7, σ7, H7, x2.trans (x26.trans x7), hr7, hI7.drop, q7⟩)
              | ret v =>
                exact seg_leaf (.ok (.ret v)) (k.ok n' outs' s₀' s7 (.ret v) hn' ⟨r7, m7, σ7, H7, x2.trans (x26.trans x7), hr7, hI7.drop, q7⟩)
  refine loop _ 0 n outs s₀ s2 σ H2 r2 m2 e hn ⟨cp, G.mono _ _ _ _ _ _ hpr x2, ?_, ?_⟩ st2 .refl (hss.ext x2) hr2 ho2
  · exact I2.pinned f2 (T.obj _ _ st2)
  · refine fun p hq => ⟨(hcp p hq).1, fun q hq2 => ?_⟩
    rcases List.mem_append.mp hq2 with hq2 | hq2
    · exact (hcp p hq).2 q hq2
    · obtain ⟨hb, _⟩ := of_pinsAt hq2
      exact fun z => (f2 q.1 hb).2.2.2.2.2 p (List.mem_append_left _ (List.mem_append_right _ hq)) z.symm
end
end Mi
end

section
set_option Elab.async false
set_option linter.all false
set_option maxRecDepth 100000
set_option maxHeartbeats 2000000
namespace Mi
open PySem PySem.Spec PyProof.Rows L2 GenW

/-! ### an exception leaves the frame: what is pinned is in the ground, untracked -/
def CXp (P : Program) (w : World) (outer : List Env) (H : Hp) (s : Shared) (E : XK) (pn : List (Addr × Obj)) (u : Value) (s' : Shared) : Prop :=
  ∃ (a : Addr) (B : Heap) (H' : Hp) (cls : Value) (d : Option Addr), u = .ref a ∧ HandSPX.FlyingZ B outer a (Zc cls d) s'.heap ∧ HOk P w H' B ∧ UB (frs outer) H H' s.heap B s'.heap ∧ H' a = none ∧ s'.os = s.os ∧ AllBare s'.gens ∧ E cls d H' ∧ ∀ p ∈ pn, B.get? p.1 = some p.2 ∧ H' p.1 = none
theorem CXp.pin {P : Program} {w : World} {outer : List Env} {H : Hp} {s s' : Shared} {E : XK} {pn : List (Addr × Obj)} {u : Value} (x : CXp P w outer H s E pn u s') : ∀ p ∈ pn, s'.heap.get? p.1 = some p.2 := by
  obtain ⟨a, B, H', cls, d, _, fl, _, _, _, _, _, _, hp⟩ := x
  exact fun p hq => fl.1 p.1 p.2 (hp p hq).1
theorem leaveP {X : Cx} {W : WX} {E : XK} {s' : Shared} (hs : X.stack = X.env :: X.outer) (hf : X.env.frame = some X.env.locals) (hex : X.ex = []) {E₁ : Value → Shared → Prop} (hW : ∀ cls d σ H, W cls d σ H → E cls d H) {u : Value} (x : XE X W u s') :
    wpAny (model X.prog X.w) X.A (leaving X.env u) (fun _ s'' => CXp X.prog X.w X.outer X.H_0 X.s_0 E X.pn u s'') E₁ s' := by
  obtain ⟨a, B, sI, pins, σ, H, cls, d, rfl, I, nb, up, sky, na, os, ag, w⟩ := x
  have hfr : X.A.frames = some (X.env :: X.outer) := by rw [I.ok.frames, hs]
  have offStack : ∀ b, b ≠ X.env.locals → b ∉ X.fs → b ∉ frs X.stack := fun b h1 h2 hm => by
    rcases List.mem_cons.mp (I.stkSub b hm) with z | z
    · exact h1 z
    · exact h2 z
  have young : ∀ b o, X.s_0.heap.get? b = some o → b ≠ X.env.locals := fun b o e z => by
    have h1 := Heap.lt_size e
    rw [z] at h1
    exact absurd (Nat.lt_of_lt_of_le h1 I.ok.above) (Nat.lt_irrefl _)
  have noEx : ∀ b, b ∉ X.ex := fun b hb => by rw [hex] at hb; cases hb
  have pinB : ∀ p ∈ X.pn, B.get? p.1 = some p.2 ∧ H p.1 = none := fun p hp => by
    obtain ⟨h1, h2, h3, h4, _⟩ := I.pin p (List.mem_append_left _ hp)
    exact ⟨nb p.1 p.2 h1 (offStack p.1 h3 h4), h2⟩
  have fin : ∀ h', HandSPX.FlyingZ B X.outer a (Zc cls d) h' → s'.heap.UpToSlots h' → CXp X.prog X.w X.outer X.H_0 X.s_0 E X.pn (.ref a) { s' with heap := h' } := fun h' fl up' => by
    refine ⟨a, B, H, cls, d, rfl, fl, I.inGround nb, ⟨fun b o e n hb => nb b o (I.base.keep b o e n hb (noEx b)) (offStack b (young b o e) hb), fun b o e hb => ?_, fun b o e n => I.base.free b o e n (noEx b), fun b o e hb => ?_, I.base.tups, I.base.frzs, I.base.tbls⟩, na, os.trans I.os, ag, hW _ _ _ _ w, pinB⟩
    · obtain ⟨_, o₀, e₀, hnf⟩ := I.ok.funs.mem hb
      rw [e] at e₀; cases e₀
      obtain ⟨sl, e1⟩ := I.base.slot b o e (I.ok.frf b hb) hb (noEx b)
      obtain ⟨sl2, e2⟩ := up b _ e1 hnf
      obtain ⟨sl3, e3⟩ := up' b _ e2 hnf
      exact ⟨sl3, e3⟩
    · obtain ⟨o', e1⟩ := I.base.there b o e (noEx b)
      exact ⟨o', nb b o' e1 (offStack b (young b o e) hb)⟩
  rw [hs] at sky
  rcases sky with ⟨hB, hn, hl, oe, vs, he, hz, hd, h1⟩ | fl | hd
  · exact HandSPX.leaving_firstZ Zc.steady hfr hl hf he hB hn hd h1 hz fin
  · exact HandSPX.leaves_onZ Zc.steady hfr hf fl fin
  · exact HandSPX.leaves_heldZ hf hd fin
/-! ### a generator def -/
theorem Inv.to_with {X : Cx} {own cp' ip ip' : List (Addr × Obj)} {xe : List (Addr × Obj) → Value → Shared → Prop} {σ : L2.St} {H : Hp} {s : Shared} (I : Inv X ip σ H s)
    (h : ∀ p ∈ (own ++ cp') ++ ip', s.heap.get? p.1 = some p.2 ∧ H p.1 = none ∧ p.1 ≠ X.env.locals ∧ p.1 ∉ X.fs ∧ ∀ v, p.2.data ≠ .cell v) : Inv (Mi.with_ X own xe cp') ip' σ H s :=
  ⟨⟨I.ok.mod, I.ok.kind, I.ok.glob, I.ok.blt, I.ok.above, I.ok.inj, I.ok.has, I.ok.cab, I.ok.hd, I.ok.frames, I.ok.stk, I.ok.exf, I.ok.bs, I.ok.bsz, I.ok.noex, I.ok.exfs, I.ok.funs, I.ok.frf⟩, I.os, I.bare, I.base, I.loc, I.cell, I.free, I.freeC, h, I.hok, I.len⟩
/-- the context of a run -/
abbrev gxOf (P : Program) (w : World) (K : PySem.W.Frag) (mg : Str → Option Value) (base : Heap) (N : List Str) (qual : Str) (scope : Scope) (f : Addr) (cd : Value) (A : Around) (outer : List Env) (s : Shared) (H : Hp) (cn : Cn) (r : Rho) (PV : MV → Prop) (Dx : MX → MH → Prop)
    (pr : List MV → List (Addr × Obj) → Rho → Hp → Prop) (mono : ∀ outs cp r H r' H', pr outs cp r H → Ext r H r' H' → pr outs cp r' H') (own : List (Addr × Obj)) : GX where
  X := gcxOf P w K mg base N qual scope f cd A outer s H (XKof K cn r H Dx) []
  own := own
  xe := fun cp e s' => wpAny (model P w) (A.deeper (envOfC qual scope s.heap.objs.size f cd)) (leaving (envOfC qual scope s.heap.objs.size f cd) e) (fun _ s'' => CXp P w outer H s (XKof K cn r H Dx) (own ++ cp) e s'') (fun _ _ => False) s'
  cn := cn
  r0 := r
  H0 := H
  PV := PV
  Dx := Dx
  pr := pr
  mono := mono
section
variable {P : Program} {w : World} {K : PySem.W.Frag} {mg : Str → Option Value} {base : Heap} {N : List Str} {qual : Str} {scope : Scope} {f : Addr} {cd : Value} {A : Around} {outer : List Env} {s : Shared} {H : Hp} {cn : Cn} {r : Rho} {PV : MV → Prop} {Dx : MX → MH → Prop}
    {pr : List MV → List (Addr × Obj) → Rho → Hp → Prop} {mono : ∀ outs cp r H r' H', pr outs cp r H → Ext r H r' H' → pr outs cp r' H'} {own cp : List (Addr × Obj)}
theorem takesQ : Takes ((gxOf P w K mg base N qual scope f cd A outer s H cn r PV Dx pr mono own).Xc cp) (gxOf P w K mg base N qual scope f cd A outer s H cn r PV Dx pr mono own).W := fun u s' x =>
  leaveP (X := (gxOf P w K mg base N qual scope f cd A outer s H cn r PV Dx pr mono own).Xc cp) (W := fun cls d _ H' => XKof K cn r H Dx cls d H') (E := XKof K cn r H Dx) (E₁ := fun _ _ => False) rfl rfl rfl (fun _ _ _ _ h => h) x
theorem passQ : PassesOwn (model P w) (A.deeper (envOfC qual scope s.heap.objs.size f cd)) (envOfC qual scope s.heap.objs.size f cd) ((gxOf P w K mg base N qual scope f cd A outer s H cn r PV Dx pr mono own).xe cp) :=
  passes_of (X := (gxOf P w K mg base N qual scope f cd A outer s H cn r PV Dx pr mono own).Xc cp) (K := fun e s'' => CXp P w outer H s (XKof K cn r H Dx) (own ++ cp) e s'') (E₁ := fun _ _ => False) rfl
end
/-- how a run may end well -/
def EndM (o : GO) (outs : List MV) (m : MH) : Prop := outs = o.1 ∧ ((∃ e, o.2 = .nx e m) ∨ o.2 = .rt .non m)
def ExcM (o : GO) (x : MX) (m : MH) : Prop := ∃ e, o.2 = .exc x e m
/-- no more than a list holds, a known end -/
def GoodO (o : GO) : Prop := o.1.length ≤ sizeLine ∧ match o.2 with
  | .nx _ _ => True
  | .rt .non _ => True
  | .exc _ _ _ => True
  | _ => False
def REndM (P : Program) (w : World) (K : PySem.W.Frag) (cn : Cn) (outer : List Env) (s : Shared) (H : Hp) (r : Rho) (o : GO) (a : Addr) (g : Nat) (pr : List MV → List (Addr × Obj) → Rho → Hp → Prop) : GenEnd := fun n s₀ res s1 =>
  ((res = .ok (.ret .none) ∨ res = .ok .next) ∧ ∃ outs cp r' m H', s1.os = s.os ∧ AllBare s1.gens ∧ Un (frs outer) [] H H' s.heap s1.heap ∧ HOk P w H' s1.heap ∧ pr outs cp r' H' ∧ (∀ p ∈ cp, s1.heap.get? p.1 = some p.2 ∧ H' p.1 = none) ∧ Ext r H r' H' ∧ HR K cn r' m H' ∧ EndM o outs m) ∨
  ∃ e, res = .error e ∧ s1.heap.IsGen a g ∧ ∃ cp outs r' H', pr outs cp r' H' ∧ CXp P w outer H s (XKof K cn r H (ExcM o)) cp e s1
def YItemM (P : Program) (w : World) (K : PySem.W.Frag) (cn : Cn) (outer : List Env) (s : Shared) (H : Hp) (r : Rho) (o : GO) (a : Addr) (g : Nat) (pr : List MV → List (Addr × Obj) → Rho → Hp → Prop) : Protocol := fun n s₀ v s1 kap =>
  s1.os = s.os ∧ AllBare s1.gens ∧ s1.heap.NoLimit ∧ s1.heap.IsGen a g ∧ ∃ outs b x cp r' m H', n + 1 + outs.length = sizeLine ∧ RelV x v ∧ RV K cn r' H' b x ∧ HR K cn r' m H' ∧ Ext r H r' H' ∧ b ∈ o.1 ∧ pr outs cp r' H' ∧ (∀ p ∈ cp, s1.heap.get? p.1 = some p.2 ∧ H' p.1 = none) ∧
    Un (frs outer) [] H H' s.heap s1.heap ∧ HOk P w H' s1.heap ∧ ∀ s' cp' H'', Slp P w cp cp' H' H'' s1 s' → pr (outs ++ [b]) cp' r' H'' → kap (.send .none) s'
/-- a generator that has not begun -/
def GMadeM (P : Program) (w : World) (K : PySem.W.Frag) (cn : Cn) (k : Nat) (outer : List Env) (s : Shared) (H : Hp) (r : Rho) (o : GO) (u : Value) (s' : Shared) : Prop :=
  ∃ (a : Addr) (g : Nat) (c : Code), u = .ref a ∧ s.heap.objs.size ≤ a ∧ a < s'.heap.objs.size ∧ s'.heap.IsGen a g ∧ s'.gens[g]? = some (.fresh c) ∧ s'.os = s.os ∧ AllBare s'.gens ∧ s'.heap.NoLimit ∧ (∀ b o, s.heap.get? b = some o → s'.heap.get? b = some o) ∧ H a = none ∧
    ∀ (A : Around) (pr : List MV → List (Addr × Obj) → Rho → Hp → Prop) (cp : List (Addr × Obj)) (s2 : Shared), (∀ outs cp r H r' H', pr outs cp r H → Ext r H r' H' → pr outs cp r' H') → RoomG k A → A.frames = some outer → (∀ b o, s'.heap.get? b = some o → s2.heap.get? b = some o) →
      s2.os = s.os → AllBare s2.gens → pr [] cp r H → (∀ p ∈ cp, s'.heap.objs.size ≤ p.1 ∧ s2.heap.get? p.1 = some p.2 ∧ ∀ v, p.2.data ≠ .cell v) →
      Seg (model P w) A (REndM P w K cn outer s H r o a g pr) (YItemM P w K cn outer s H r o a g pr) sizeLine s2 c ((model P w).den c) [] s2
/-- what a generator def promises -/
def FnY (P : Program) (w : World) (K : PySem.W.Frag) (mg : Str → Option Value) (base : Heap) (cn : Cn) (k n : Nat) (f : Addr) (h : List MV → MH → GO) : Prop :=
  ∀ (A : Around) (outer : List Env) (s : Shared) (H : Hp) (us : List Value) (vs : List V) (r : Rho) (m : MH) (as : List MV), RoomG k A → Env0 P w K mg base A outer s H → Vals vs us → HR K cn r m H → RVs K cn r H as vs → as.length = n → GoodO (h as m) →
    codeAny (model P w) A (.call (.ref f) ⟨us, []⟩) (fun res s' => match res with | .ok (.ret u) => GMadeM P w K cn k outer s H r (h as m) u s' | _ => False) s
section
variable {P : Program} {w : World} {K : PySem.W.Frag} {mg : Str → Option Value} {base : Heap} {x qual : Str} {params : Arguments} {body : List Stmt} {scope : Scope} {kws : List (Str × V)} {f : Addr} {fd : FuncData} {cn : Cn}
theorem fy_of {N ps : List Str} {k : Nat} {g : GMd} (F : FunD K x qual params body scope [] kws f fd) (S : GScope N ps scope)
    (hb : ∀ (kV doc pm : Value) (an : Option Addr) (cdv ct : Value) (us : List Value), us.length = ps.length → bindArgs (PySem.W.fnOf x qual params body scope .none kV doc pm an cdv ct) ⟨us, []⟩ = pure (ps.zip us))
    (hbody : ∀ (cdv : Value) (A : Around) (outer : List Env) (s : Shared) (H : Hp) (r : Rho) (PV : MV → Prop) (Dx : MX → MH → Prop) (pr : List MV → List (Addr × Obj) → Rho → Hp → Prop) (mono : ∀ outs cp r H r' H', pr outs cp r H → Ext r H r' H' → pr outs cp r' H') (own : List (Addr × Obj)),
      RoomG k (A.deeper (envOfC qual scope s.heap.objs.size f cdv)) → GSts (gxOf P w K mg base N qual scope f cdv A outer s H cn r PV Dx pr mono own) body g) :
    FnY P w K mg base cn (k + 1) ps.length f (fun as m => g (startM N.length as) m) := by
  intro A outer s H us vs r m as hr e0 rv hhr hvs hlen hgood
  obtain ⟨oc, od, dV, kV, doc, pm, an, cdv, ct, osl, rfl, lk, hcd, hdv, _⟩ := F.ex
  have KX : K.In s.heap := e0.mod.kin.keeps fun b o e => (e0.bs b o e).1
  have lim : s.heap.NoLimit := e0.mod.nolimit.keeps fun b o e => (e0.bs b o e).1
  have hgood : GoodO (g (startM N.length as) m) := hgood
  have hl : vs.length = ps.length := by rw [← hvs.length]; exact hlen
  have hdn : dV = .none := by
    rcases hdv with ⟨_, e⟩ | ⟨e, _⟩
    · exact e
    · exact absurd rfl e
  subst hdn
  have hkind : ∀ y ∈ ps.zip us, scope.names.lookup y.1 = some .local ∨ (scope.names.lookup y.1 = some .cell ∧ ((cellsFrom (s.heap.objs.size + 1) scope.names []).lookup y.1).isSome = true) := fun ⟨n, v⟩ hy => by
    rcases S.par n (List.of_mem_zip hy).1 with q | q
    · exact .inl q
    · exact .inr ⟨q, PySem.W.cellsFrom_some _ _ _ (.inl q)⟩
  refine codeAny_call_generator hr.room.depth (KX _ _ lk) rfl S.co S.gen rfl (PySem.W.codeRec_of KX hcd) ?_
  refine wpAny_of_eq (hb kV doc pm an cdv ct us (by rw [← rv.length]; exact hl)) ?_
  refine wpAny_newFunctionEnv_cells S.kind hkind fun env he s1 x1 => ?_
  subst he
  have lim1 : s1.heap.NoLimit := lim.keeps x1.toInCall.keep
  refine ⟨lim1, ?_⟩
  obtain ⟨h1, tk, es1, hk1⟩ := x1.done
  have os1 : s1.os = s.os := by rw [es1]
  have gen1 : s1.gens = s.gens := by rw [es1]
  have lt1 : s.heap.objs.size < s1.heap.objs.size := x1.toInCall.ns.lt
  have sz1 : s.heap.objs.size ≤ s1.heap.objs.size := Nat.le_of_lt lt1
  have kp1 : ∀ b o, s.heap.get? b = some o → s1.heap.get? b = some o := x1.toInCall.keep
  have main : ∀ (go : Obj) (nm qn : Value) (tk2 : Nat), go.cls = .type "generator" → go.data = .fields #[.int s1.gens.size 0, nm, qn] → go.slots = #[] → (∀ h : Heap, (h.push go).get? h.objs.size = some go) →
      GMadeM P w K cn (k + 1) outer s H r (g (startM N.length as) m) (.ref s1.heap.objs.size) { s1 with gens := s1.gens.push (.fresh (.func body (envOfC qual scope s.heap.objs.size f cdv))), toks := tk2, heap := s1.heap.push go } := by
    intro go nm qn tk2 hgc hgd0 hgs hgp
    have hgen : ∀ h : Heap, h.get? s1.heap.objs.size = some go → h.IsGen s1.heap.objs.size s1.gens.size := fun h e => ⟨go, nm, qn, e, hgc, hgd0, hgs⟩
    have hpushed : (s1.heap.push go).get? s1.heap.objs.size = some go := hgp _
    refine ⟨s1.heap.objs.size, s1.gens.size, _, rfl, sz1, ?_, hgen _ hpushed, Array.getElem?_push_size .., os1, ?_, lim1.keeps fun b o e => Heap.get?_push_of_some _ e, fun b o e => Heap.get?_push_of_some _ (kp1 b o e), e0.hok.fresh sz1, ?_⟩
    · show _ < (s1.heap.push _).objs.size
      rw [Heap.size_push]; exact Nat.lt_succ_self _
    · exact AllBare.push (by rw [gen1]; exact e0.bare) rfl
    intro Aw pr cp s2 mono hrw hfr hk2 hos hba hpr hcp
    have e0w : Env0 P w K mg base Aw outer s H := ⟨hfr, e0.mod, e0.bs, e0.bsz, e0.funs, e0.frf, e0.hok, e0.bare⟩
    generalize hO : g (startM N.length as) m = o at hgood ⊢
    have hgs2 := hbody cdv Aw outer s H r (fun a => a ∈ o.1) (ExcM o) pr mono [(s1.heap.objs.size, go)] (hrw.deeper _)
    generalize hG : gxOf P w K mg base N qual scope f cdv Aw outer s H cn r (fun a => a ∈ o.1) (ExcM o) pr mono [(s1.heap.objs.size, go)] = G at hgs2
    have I1 : Inv (gcxOf P w K mg base N qual scope f cdv Aw outer s H (XKof K cn r H (ExcM o)) []) [] (L2.start N vs) H s1 := inv_startG S hrw.room.hd e0w hl rv x1
    have kp2 : ∀ b o, s1.heap.get? b = some o → s2.heap.get? b = some o := fun b o e => hk2 b o (Heap.get?_push_of_some _ e)
    have I2 : Inv (gcxOf P w K mg base N qual scope f cdv Aw outer s H (XKof K cn r H (ExcM o)) []) [] (L2.start N vs) H s2 :=
      I1.call' (ch := []) (hos.trans os1.symm) (Un.kept kp2) (I1.hok.kept kp2) hba fun b z => by simp at z
    have hea : s2.heap.get? s1.heap.objs.size = some go := hk2 s1.heap.objs.size go hpushed
    have hgd : ∀ v, go.data ≠ .cell v := fun v q => by rw [hgd0] at q; cases q
    have young : ∀ b, s1.heap.objs.size ≤ b → H b = none ∧ b ≠ s.heap.objs.size ∧ b ∉ frs outer ∧ s.heap.objs.size ≤ b ∧ ∀ y c, (cellsFrom (s.heap.objs.size + 1) scope.names []).lookup y = some c → c ≠ b := fun b hb => by
      refine ⟨I1.hok.fresh hb, Nat.ne_of_gt (Nat.lt_of_lt_of_le lt1 hb), I1.nofs hb, Nat.le_trans sz1 hb, fun y c e z => ?_⟩
      obtain ⟨v, ob, ho, _⟩ := I1.cell y c e
      have := Heap.lt_size ho
      rw [z] at this
      exact absurd (Nat.lt_of_lt_of_le this hb) (Nat.lt_irrefl _)
    have hcp1 : ∀ p ∈ cp, s1.heap.objs.size < p.1 := fun p hp => by
      have z : (s1.heap.push go).objs.size ≤ p.1 := (hcp p hp).1
      rw [Heap.size_push] at z
      exact z
    have hI : GIq G [] [] r (L2.start N vs) H s2 := by
      subst hG
      refine ⟨cp, hpr, ?_, fun p hp => ?_⟩
      · refine Inv.to_with I2 fun p hp => ?_
        rcases List.mem_append.mp hp with z | z
        · rcases List.mem_append.mp z with z | z
          · rw [List.mem_singleton.mp z]
            obtain ⟨y1, y2, y3, _, _⟩ := young s1.heap.objs.size (Nat.le_refl _)
            exact ⟨hea, y1, y2, y3, hgd⟩
          · obtain ⟨y1, y2, y3, _, _⟩ := young p.1 (Nat.le_of_lt (hcp1 p z))
            obtain ⟨_, q1, q2⟩ := hcp p z
            exact ⟨q1, y1, y2, y3, q2⟩
        · simp at z
      · obtain ⟨_, y2, _, y4, y5⟩ := young p.1 (Nat.le_of_lt (hcp1 p hp))
        refine ⟨⟨y4, y5, fun q hq => ?_⟩, fun q hq => by simp at hq⟩
        rw [List.mem_singleton.mp hq]
        exact Nat.ne_of_lt (hcp1 p hp)
    have pinned : ∀ {ip cp : List (Addr × Obj)} {s' : Shared} {σ' : L2.St} {H' : Hp}, Inv (G.Xc cp) ip σ' H' s' → s'.heap.IsGen s1.heap.objs.size s1.gens.size ∧ ∀ p ∈ cp, s'.heap.get? p.1 = some p.2 ∧ H' p.1 = none := fun {ip cp s' σ' H'} J => by
      subst hG
      exact ⟨hgen _ (J.pin (s1.heap.objs.size, go) (List.mem_append_left _ (List.mem_append_left _ (List.mem_singleton.mpr rfl)))).1, fun p hp => let z := J.pin p (List.mem_append_left _ (List.mem_append_right _ hp)); ⟨z.1, z.2.1⟩⟩
    refine seg_func ?_
    refine seg_imp (R := REndM P w K cn outer s H r o s1.heap.objs.size s1.gens.size pr) (Y := GYq G) (fun _ _ _ _ z => z) (fun n s₀ v s1' kap kap' hkk hY => ?_) sizeLine ?_
    · obtain ⟨outs, b, xx, ip, cp', r', m', σ', H', hn, h2, h3, h4, h5, h6, h7, h8, h9, h10⟩ := hY
      obtain ⟨pg, pc⟩ := pinned h8
      subst hG
      exact ⟨h8.os, h8.bare, h8.nolimit, pg, outs, b, xx, cp', r', m', H', hn, h2, h3, h4, h5, h6, h7, pc, h8.base, h8.hok, fun s' cp'' H'' z1 z2 => hkk _ _ (h10 s' cp'' H'' z1 z2)⟩
    · have hss := start_sr (K := K) (cn := cn) (r := r) (H := H) (N := N) hvs
      have okG : GOk G { nx := fun outs' _ m' => outs' = o.1 ∧ ∃ e, o.2 = .nx e m', rt := fun outs' a m' => outs' = o.1 ∧ a = .non ∧ o.2 = .rt .non m' } [] (g (startM N.length as) m) := by
        subst hG
        rw [hO]
        refine ⟨fun a ha => ha, by rw [List.length_nil, Nat.zero_add]; exact hgood.1, ?_⟩
        have h2 := hgood.2
        cases q : o.2 with
        | nx e' m' => exact ⟨rfl, e', rfl⟩
        | rt a m' =>
          rw [q] at h2
          cases a with
          | non => exact ⟨rfl, rfl, rfl⟩
          | _ => exact h2.elim
        | exc x e' m' => exact ⟨e', q⟩
        | bk _ _ => rw [q] at h2; exact h2.elim
        | ct _ _ => rw [q] at h2; exact h2.elim
        | bad => rw [q] at h2; exact h2.elim
      have fin : ∀ (n : Nat) (outs : List MV) (s₀ s' : Shared) (fl : Flow), GSPq G r H [] { nx := fun outs' _ m' => outs' = o.1 ∧ ∃ e, o.2 = .nx e m', rt := fun outs' a m' => outs' = o.1 ∧ a = .non ∧ o.2 = .rt .non m' } outs fl s' → (fl = .next ∨ fl = .ret .none) ∧ ∀ res, (res = .ok (.ret .none) ∨ res = .ok .next) → REndM P w K cn outer s H r o s1.heap.objs.size s1.gens.size pr n s₀ res s' := fun n outs s₀ s' fl ⟨r', m', σ', H', x', hr', ⟨cp', hp', J, _⟩, q⟩ => by
        obtain ⟨_, pc⟩ := pinned J
        subst hG
        cases fl with
        | next =>
          obtain ⟨e', _, q1, q2⟩ := q
          exact ⟨.inl rfl, fun res hres => .inl ⟨hres, outs, cp', r', m', H', J.os, J.bare, J.base, J.hok, hp', pc, x', hr', q1, .inl q2⟩⟩
        | ret u =>
          obtain ⟨a, v, rvv, hv, q1, q2, q3⟩ := q
          subst q2
          cases hv
          have : u = Value.none := rvv
          subst this
          exact ⟨.inr rfl, fun res hres => .inl ⟨hres, outs, cp', r', m', H', J.os, J.bare, J.base, J.hok, hp', pc, x', hr', q1, .inr q3⟩⟩
        | brk => obtain ⟨_, _, q⟩ := q; exact q.elim
        | cont => obtain ⟨_, _, q⟩ := q; exact q.elim
      have hx : ∀ cp, G.xe cp = (fun e s' => wpAny (model P w) (Aw.deeper (envOfC qual scope s.heap.objs.size f cdv)) (leaving (envOfC qual scope s.heap.objs.size f cdv) e) (fun _ s'' => CXp P w outer H s (XKof K cn r H (ExcM o)) ([(s1.heap.objs.size, go)] ++ cp) e s'') (fun _ _ => False) s') ∧ G.pr = pr := fun cp => by subst hG; exact ⟨rfl, rfl⟩
      have hmod : G.X.prog = P ∧ G.X.w = w ∧ G.X.A = Aw.deeper (envOfC qual scope s.heap.objs.size f cdv) ∧ G.X.env = envOfC qual scope s.heap.objs.size f cdv ∧ G.X.K = K ∧ G.cn = cn ∧ G.r0 = r ∧ G.H0 = H := by subst hG; exact ⟨rfl, rfl, rfl, rfl, rfl, rfl, rfl, rfl⟩
      obtain ⟨e1, e2, e3, e4, e5, e6, e7, e8⟩ := hmod
      have run := hgs2 Aw [] (REndM P w K cn outer s H r o s1.heap.objs.size s1.gens.size pr) sizeLine [] s2 (.func body (envOfC qual scope s.heap.objs.size f cdv)) [] (fun fl => .pure (.done (.ret (match fl with | .ret v => v | _ => .none)))) (fun e => (leaving (envOfC qual scope s.heap.objs.size f cdv) e).wrap (fun _ => .raise e) .raise id id) id id s2 (L2.start N vs) H r m (startM N.length as) _
        ⟨by rw [e3]; exact over_func, rfl, rfl, rfl⟩ (Nat.add_zero _) ⟨fun n outs s₀ s' fl hn hs => ?_, fun n s₀ e s' cp' hp' hxe => ?_⟩ hI (by rw [e7, e8]; exact .refl) (by rw [e5, e6]; exact hss) (by rw [e5, e6]; exact hhr) okG
      · rw [e1, e2, e4] at run
        exact run
      · obtain ⟨q1, q2⟩ := fin n outs s₀ s' fl hs
        rcases q1 with rfl | rfl
        · exact seg_end (.ok (.ret .none)) (q2 _ (.inl rfl))
        · exact seg_end (.ok (.ret .none)) (q2 _ (.inl rfl))
      · rw [(hx cp').1] at hxe
        rw [(hx cp').2] at hp'
        refine seg_wrap ?_
        rw [over_func, e1, e2]
        refine wpAny_mono hxe (fun _ s'' q => ?_) fun _ s'' q => q.elim
        obtain ⟨outs', r', H', hpp⟩ := hp'
        have qg := q.pin (s1.heap.objs.size, go) (List.mem_append_left _ (List.mem_singleton.mpr rfl))
        refine seg_end (.error e) (.inr ⟨e, rfl, hgen _ qg, cp', outs', r', H', hpp, ?_⟩)
        obtain ⟨a, B, H2, cls, d, y1, y2, y3, y4, y5, y6, y7, y8, y9⟩ := q
        exact ⟨a, B, H2, cls, d, y1, y2, y3, y4, y5, y6, y7, y8, fun p hp => y9 p (List.mem_append_right _ hp)⟩
  exact main _ _ _ _ rfl rfl rfl fun h => Heap.get?_push_size _ rfl
end
end Mi
end

section
set_option Elab.async false
set_option linter.all false
set_option maxRecDepth 100000
set_option maxHeartbeats 2000000
namespace Mi
open PySem PySem.Spec PyProof.Rows L2 GenW

/-! ### def m(self): return list(self.f), with the generators' table seen: it stays -/
/-- what such a call leaves -/
def Told (s : Shared) (ys : List V) (u : Value) (s' : Shared) : Prop :=
  ∃ L its c, u = .ref L ∧ s.heap.objs.size ≤ L ∧ s'.heap.get? L = some (lstObj its c) ∧ Vals ys its.toList ∧ ys.length ≤ sizeLine ∧ (∀ b o, s.heap.get? b = some o → s'.heap.get? b = some o) ∧ s'.gens = s.gens ∧ s'.os = s.os
section
variable {P : Program} {w : World} {K : PySem.W.Frag} {mg : Str → Option Value} {base : Heap} {x qual : Str} {params : Arguments} {scope : Scope} {kws : List (Str × V)} {f : Addr} {fd : FuncData}
theorem told_raw {self fld : Str} {p1 p2 p3 p4 p5 : Pos} {A : Around} {outer : List Env} {s : Shared} {H : Hp} {a q C d : Addr} {fs : List (Str × V)} {ys : List V} {k : Nat}
    (F : FunD K x qual params [.Return (some (.Call (.Name "list" p1) [.Attribute (.Name self p2) fld p3] [] p4)) p5] scope [] kws f fd) (S : FnScope [self] [self] scope)
    (hb : ∀ (kV doc pm : Value) (an : Option Addr) (cdv ct : Value) (us : List Value), us.length = 1 → bindArgs (PySem.W.fnOf x qual params [.Return (some (.Call (.Name "list" p1) [.Attribute (.Name self p2) fld p3] [] p4)) p5] scope .none kV doc pm an cdv ct) ⟨us, []⟩ = pure ([self].zip us))
    (hloc : scope.names.lookup self = some .local) (hg : ∀ (n : Nat) (cdv : Value), (envOfC qual scope n f cdv).kindOf "list" = some .globalImplicit) (hm : mg "list" = none) (hself : (self == ("__debug__" : Str)) = false)
    (hr : Room (k + 1) A) (e0 : Env0 P w K mg base A outer s H) (hrd : Rd H a (.ins C d fs)) (hc : Cls K C) (hn : NoAttr K C fld) (hl : fs.lookup fld = some (.ref q)) (hq : SqT K H q ys) :
    codeAny (model P w) A (.call (.ref f) ⟨[.ref a], []⟩) (fun r s' => match r with | .ok (.ret u) => Told s ys u s' | _ => False) s := by
  obtain ⟨oc, od, dV, kV, doc, pm, an, cdv, ct, osl, rfl, lk, hcdi, hdv, _⟩ := F.ex
  have KX : K.In s.heap := e0.mod.kin.keeps fun b o e => (e0.bs b o e).1
  have lim : s.heap.NoLimit := e0.mod.nolimit.keeps fun b o e => (e0.bs b o e).1
  have hdn : dV = .none := by
    rcases hdv with ⟨_, e⟩ | ⟨e, _⟩
    · exact e
    · exact absurd rfl e
  subst hdn
  have hkind : ∀ y ∈ [self].zip [Value.ref a], scope.names.lookup y.1 = some .local ∨ (scope.names.lookup y.1 = some .cell ∧ ((cellsFrom (s.heap.objs.size + 1) scope.names []).lookup y.1).isSome = true) := fun ⟨n, v⟩ hy => by
    have e : n = self := by simpa using (List.of_mem_zip hy).1
    rw [e]
    exact .inl hloc
  refine codeAny_call_function hr.depth (KX _ _ lk) rfl S.co S.gen rfl (PySem.W.codeRec_of KX hcdi) ?_
  refine wpAny_of_eq (hb kV doc pm an cdv ct [.ref a] rfl) ?_
  refine wpAny_newFunctionEnv_cells S.kind hkind fun env he s1 x1 => ?_
  subst he
  refine ⟨lim.keeps x1.toInCall.keep, codeAny_func ?_⟩
  obtain ⟨h1, tk, es1, hk1⟩ := x1.done
  have I : Inv (cxOf (L2.CX P w) P w K mg base [self] qual scope f cdv A outer s H fun _ _ _ => False) [] (L2.start [self] [V.ref a]) H s1 := inv_start S hr.hd e0 rfl (.cons rfl .nil) x1
  have kp1 : ∀ b o, s.heap.get? b = some o → s1.heap.get? b = some o := x1.toInCall.keep
  show wpAny (model P w) (A.deeper (envOfC qual scope s.heap.objs.size f cdv)) (execs _ (envOfC qual scope s.heap.objs.size f cdv)) _ _ s1
  refine wpAny_execs_cons (wpAny_Return_some ?_)
  refine Call_ (ld_blt (X := cxOf (L2.CX P w) P w K mg base [self] qual scope f cdv A outer s H fun _ _ _ => False) I (hg _ _) hm boot_list ?_)
  refine PyProof.Rows.callWith_type1 (PyProof.Rows.args_cons ?_ rfl) rfl rfl
  refine attr_of rfl ?_
  obtain ⟨m, hnm, hlm⟩ := I.loc
  obtain ⟨u, ru, lu⟩ := hlm 0 self (.ref a) rfl rfl (.inl hloc)
  obtain rfl : u = Value.ref a := ru
  have hmm : m self = some (.ref a) := by
    rcases lu with ⟨_, e⟩ | ⟨hk, _⟩
    · exact e
    · have hk : scope.names.lookup self = some .cell ∨ scope.names.lookup self = some .free := hk
      rw [hloc] at hk
      rcases hk with hk | hk <;> cases hk
  refine wpAny_Name (wpAny_loadName_local S.kind hloc hnm hmm ?_) hself
  obtain ⟨d2, z, ne, ob, mA, n', r', qq⟩ := hrd.ok I.hok
  obtain ⟨u, hu, ru⟩ := RelO.some_of (v := V.ref q) (o := mA fld) (by rw [← hl]; exact r' fld)
  obtain rfl : u = Value.ref q := ru
  refine get_map I.kIn ⟨ob, n', ne⟩ (hc.get fld) hc.hd hn hu rfl ?_
  refine PyProof.Rows.args_nil ?_
  obtain ⟨its, rv, pt, hz⟩ := I.tuple hq
  have hlen := rv.length
  obtain ⟨o, ho, hcl, n, hd⟩ := pt
  refine call_list_seq q (.inr rfl) (s := { s1 with toks := s1.toks + 1 }) ho hcl hd (fun h' c' kp e => ?_) (by simp only [List.size_toArray] <;> omega)
  exact ⟨_, its.toArray, c', rfl, Nat.le_trans (Nat.le_of_lt x1.toInCall.ns.lt) (Nat.le_refl _), e, rv, hz, fun b o q => kp b o (kp1 b o q), by rw [es1], by rw [es1]⟩
end
end Mi
end

section
set_option Elab.async false
set_option linter.all false
set_option maxRecDepth 100000
set_option maxHeartbeats 2000000
namespace Mi
open PySem PySem.Spec PyProof.Rows L2 GenW

/-! ### an exception leaves a comprehension: it came out of the generator -/
theorem comp_fail {X : Cx} {W : WX} {pins : List (Addr × Obj)} {σ : L2.St} {H : Hp} {s0 s1 s' : Shared} {E : XK} {cp : List (Addr × Obj)} {C : Addr} {dob : Obj} {cenv : Env} {u : Value} {m : Str → Option Value} (hs : X.stack = X.env :: X.outer) (hf : X.env.frame = some X.env.locals) (tk : Takes X W) (hcf : cenv.frame = X.env.frame) (hC : cenv.locals = C)
    (I : Inv X pins σ H s0) (hW : ∀ cls d H', E cls d H' → W cls d σ H') (hx : CXp X.prog X.w X.stack H s0 E cp u s1) (hCp : (C, dob) ∈ cp) (hy : s0.heap.objs.size ≤ C) (hn : s1.heap.Ns C m) (e1 : s'.heap = s1.heap) (e2 : s'.os = s1.os) (ag' : AllBare s'.gens) :
    notedBy (model X.prog X.w) X.A cenv (CompFails (model X.prog X.w) X.A X.xe cenv) u s' := by
  obtain ⟨a, B, H', cls, d, rfl, fl, hok, ub, na, os, ag, hE, hp⟩ := hx
  obtain ⟨_, hHC⟩ := hp _ hCp
  have hfr : X.A.frames = some (X.env :: X.outer) := by rw [I.ok.frames, hs]
  -- the ground without the block's names
  generalize hB' : PySem.W.hideAll B [C] = B'
  have sub : ∀ b o, B'.get? b = some o → B.get? b = some o := fun b o e => PySem.W.of_hideAll _ (by rw [hB']; exact e)
  have noC : B'.get? C = none := by rw [← hB']; exact PySem.W.hideAll_none _ (List.mem_singleton.mpr rfl)
  have stays : ∀ b o, b ≠ C → B.get? b = some o → B'.get? b = some o := fun b o hb e => by rw [← hB']; exact PySem.W.hideAll_get _ e fun z => hb (List.mem_singleton.mp z)
  have none' : ∀ b, B.get? b = none → B'.get? b = none := fun b e => by
    cases q : B'.get? b with
    | none => rfl
    | some o => rw [sub b o q] at e; cases e
  have neC : ∀ b o, s0.heap.get? b = some o → b ≠ C := fun b o e => Nat.ne_of_lt (Nat.lt_of_lt_of_le (Heap.lt_size e) hy)
  have hok' : HOk X.prog X.w H' B' := fun b v q => by
    refine (hok b v q).stay (fun c w hc e => stays c w ?_ e) (fun _ z => z) fun _ _ z => z
    rintro rfl
    rcases hc with z | z
    · rw [z, q] at hHC; cases hHC
    · rw [z] at hHC; cases hHC
  have ub' : UB (frs X.stack) H H' s0.heap B' s'.heap := ⟨fun b o e n hb => stays b o (neC b o e) (ub.keep b o e n hb), fun b o e hb => by rw [e1]; exact ub.slot b o e hb, ub.free, fun b o e hb => let ⟨o', q⟩ := ub.there b o e hb; ⟨o', stays b o' (neC b o e) q⟩, ub.tups, ub.frzs, ub.tbls⟩
  obtain ⟨f1, f2, f3, oe, vs, T, oT, ts, t1, t2, t3, t4, t5, t6, t7, t8, t9⟩ := fl
  have frn : ∀ L ∈ frs X.stack, B'.get? L = none := fun L hL => none' L (f3.mem hL).1
  have fl' : HandSPX.FlyingZ B' X.stack a (Zc cls d) s'.heap := by
    rw [e1]
    exact ⟨fun b o e => f1 b o (sub b o e), none' a f2, funFrames_none f3 frn, oe, vs, T, oT, ts, t1, t2, t3, t4, none' T t5, t6, t7, t8, t9⟩
  rw [hs] at fl' frn
  show wpAny (model X.prog X.w) X.A (noteFrame (.ref a) cenv) _ _ s'
  rw [noteFrame_env _ hcf]
  refine HandSPX.looks_onZ Zc.steady hfr hf fl' fun h2 hH up => ?_
  have hn2 : h2.Ns C m := by
    have hn' : s'.heap.Ns C m := by rw [e1]; exact hn
    exact hn'.upToSlots up
  refine ⟨m, by rw [hC]; exact hn2, fun h3 m3 hn3 hs3 => ?_⟩
  rw [hC] at hn3 hs3
  have held : HandSPX.HeldZ B' (X.env :: X.outer) a (Zc cls d) X.env.locals h3 := by
    obtain ⟨g1, g2, g3, oe, vs, T, oT, ts, t1, t2, t3, t4, t5, t6, t7, t8, t9⟩ := hH
    obtain ⟨oC, es, ep, hoC, hdC, _⟩ := hn2
    have nf : ∀ b o ws, h2.get? b = some o → o.data = .fields ws → b ≠ C := fun b o ws e ed z => by
      rw [z, hoC] at e; cases e; rw [hdC] at ed; cases ed
    refine ⟨fun b o e => (hs3.2 b fun z => by rw [z, noC] at e; cases e).trans (g1 b o e), g2, Heap.FunFrames.sameBut hs3 hn3 g3, oe, vs, T, oT, ts, (hs3.2 a (nf a oe vs t1 t3)).trans t1, t2, t3, t4, t5, t6, (hs3.2 T (nf T oT ts t7 t8)).trans t7, t8, t9⟩
  have h1' := held
  obtain ⟨_, _, _, oe, vs, T, oT, ts, t1, t2, t3, t4, _⟩ := h1'
  unfold PySem.passOn
  refine wpAny_bind (wpAny_field t1 t3 t4 ?_)
  rw [if_neg (show ¬ ((Value.ref T == Value.none) = true) from by simp)]
  rw [hcf, hf]
  refine wpAny_bind (HandSPX.setFlight_onZ held fun h4 hH4 up4 => ?_)
  refine wpAny_throw (tk _ _ ?_)
  -- in our air
  obtain ⟨G, g1, g2⟩ := restrict h4 fun b => (B'.get? b).isSome || decide (b ∈ frs X.stack)
  have st : B'.StaysIn h4 := hH4.1
  have gB : ∀ b o, B'.get? b = some o → G.get? b = some o := fun b o e => by
    rw [g1 b (by simp [e])]
    exact st b o e
  have gF : ∀ b, b ∈ frs X.stack → G.get? b = h4.get? b := fun b hb => g1 b (by simp [hb])
  have og : ∀ b o, G.get? b = some o → h4.get? b = some o ∧ ((B'.get? b).isSome = true ∨ b ∈ frs X.stack) := fun b o e => by
    cases q : ((B'.get? b).isSome || decide (b ∈ frs X.stack)) with
    | false => rw [g2 b q] at e; cases e
    | true =>
      rw [g1 b q] at e
      exact ⟨e, by simpa [Bool.or_eq_true] using q⟩
  have slot4 : ∀ b o, s0.heap.get? b = some o → b ∈ frs X.stack → ∃ sl, h4.get? b = some { o with slots := sl } := fun b o e hb => by
    obtain ⟨_, o₀, e₀, hnf⟩ := I.stack.mem hb
    rw [e] at e₀; cases e₀
    obtain ⟨s2, q2⟩ := ub'.slot b o e hb
    obtain ⟨s3, q3⟩ := up b _ q2 hnf
    have q3' := (hs3.2 b (neC b o e)).trans q3
    obtain ⟨s4, q4⟩ := up4 b _ q3' hnf
    exact ⟨s4, q4⟩
  refine ⟨a, B', { s0 with heap := G, gens := s'.gens, drawn := s'.drawn, toks := s'.toks }, pins, σ, H', cls, d, rfl, ?_, fun b o e hb => ?_, Heap.UpToSlots.of_keeps fun b o e => (og b o e).1, .inr (.inr (by rw [hs]; exact hH4)), na, e2.trans os, ag', hW _ _ _ hE⟩
  · refine I.call (ch := []) ⟨fun b o e n hb _ => gB b o (ub'.keep b o e n hb), fun b o e n hb _ => ?_, fun b o e n _ => ub.free b o e n, fun b o e _ => ?_, ub.tups, ub.frzs, ub.tbls⟩ (hok'.kept gB) ag' (fun _ z => nomatch z)
    · obtain ⟨sl, q⟩ := slot4 b o e hb
      exact ⟨sl, by rw [gF b hb]; exact q⟩
    · by_cases hb : b ∈ frs X.stack
      · obtain ⟨sl, q⟩ := slot4 b o e hb
        exact ⟨_, by rw [gF b hb]; exact q⟩
      · obtain ⟨o', q⟩ := ub'.there b o e hb
        exact ⟨o', gB b o' q⟩
  · obtain ⟨e', h⟩ := og b o e
    rcases h with h | h
    · obtain ⟨o', q⟩ := Option.isSome_iff_exists.mp h
      have z := st b o' q
      rw [e'] at z; cases z
      exact q
    · exact absurd h hb
/-! ### one turn -/
/-- what a turn leaves: D one item longer, the block's names changed, a new list at L -/
def Turned (s : Shared) (D C : Addr) (acc : Array Value) (ys : List V) (s5 : Shared) : Prop :=
  ∃ L its c c' m, s5.heap.get? D = some (lstObj (acc.push (.ref L)) c) ∧ s5.heap.Ns C m ∧ s.heap.objs.size ≤ L ∧ s5.heap.get? L = some (lstObj its c') ∧ Vals ys its.toList ∧ ys.length ≤ sizeLine ∧ (∀ b o, b ≠ C → b ≠ D → s.heap.get? b = some o → s5.heap.get? b = some o) ∧ s5.gens = s.gens ∧ s5.os = s.os
section
variable {X : Cx} {xn qual : Str} {params : Arguments} {scope : Scope} {kws : List (Str × V)} {f : Addr} {fd : FuncData}
theorem turn_raw {self fld rn mt : Str} {p1 p2 p3 p4 p5 p6 p7 apos pos' : Pos} {body : List Stmt} {pins : List (Addr × Obj)} {σ : L2.St} {H : Hp} {s : Shared} {cenv : Env} {C D a q Cr d : Addr} {fs : List (Str × V)} {ys : List V} {k c : Nat} {acc : Array Value} {m : Str → Option Value} {E : Value → Shared → Prop} {pl : Sem Bool} {Post : Shared → Prop}
    (hbody : body = [.Return (some (.Call (.Name "list" p1) [.Attribute (.Name self p2) fld p3] [] p4)) p5]) (F : FunD X.K xn qual params body scope [] kws f fd) (S : FnScope [self] [self] scope)
    (hb : ∀ (kV doc pm : Value) (an : Option Addr) (cdv ct : Value) (us : List Value), us.length = 1 → bindArgs (PySem.W.fnOf xn qual params body scope .none kV doc pm an cdv ct) ⟨us, []⟩ = pure ([self].zip us))
    (hloc : scope.names.lookup self = some .local) (hg : ∀ (n : Nat) (cdv : Value), (envOfC qual scope n f cdv).kindOf "list" = some .globalImplicit) (hm : X.mg "list" = none) (hself : (self == ("__debug__" : Str)) = false) (hrn : (rn == ("__debug__" : Str)) = false)
    (hr : Room (k + 1) X.A) (J : Inv X pins σ H s) (hrd : Rd H a (.ins Cr d fs)) (hc : Cls X.K Cr) (hme : Meth X.K Cr mt f) (hlm : fs.lookup mt = none) (hn : NoAttr X.K Cr fld) (hl : fs.lookup fld = some (.ref q)) (hq : SqT X.K H q ys)
    (hCl : cenv.locals = C) (hkind : cenv.scope.kind = .function) (hk : cenv.kindOf rn = some .local) (hNs : s.heap.Ns C m) (fC : FpOk X pins H C) (hD : s.heap.get? D = some (lstObj acc c)) (hDC : D ≠ C) (hDz : acc.size ≤ sizeLine)
    (ht : eval (.Call (.Attribute (.Name rn p6) mt apos) [] [] pos') cenv = (do
      let ov ← eval (.Name rn p6) cenv
      standAt apos.atName
      let (f, first) ← holding [ov] (getMethod ov mt pl)
      callWith pos' f first (backTo pos' (starEach [] cenv)) (backToKw pos' (keywordEach [] cenv))))
    (hP : ∀ s5, Turned s D C acc ys s5 → Post s5) :
    wpAny (model X.prog X.w) X.A (assign (.Name rn p7) cenv (.ref a)) (fun _ s2 => wpAny (model X.prog X.w) X.A (eval (.Call (.Attribute (.Name rn p6) mt apos) [] [] pos') cenv) (fun x s4 =>
      wpAny (model X.prog X.w) X.A (call (.builtin "list.append") [.ref D, x]) (fun _ s5 => Post s5) E s4) E s2) E s := by
  subst hbody
  have hcls : (cenv.scope.kind == .class || (cenv.scope.kind == .module && cenv.locals != cenv.globals)) = false := by rw [hkind]; rfl
  obtain ⟨f0, f1, f2, f3, f4, f5⟩ := fC
  refine wpAny_assign_Name (wpAny_storeName_local hk (by rw [hCl]; exact hNs) (fun h' hn' hs' => ?_) hcls)
  rw [hCl] at hn' hs'
  have J2 : Inv X pins σ H { s with heap := h', toks := s.toks + 1 } := J.turned (t' := s.toks + 1) (fun b o hb e => (hs'.2 b hb).trans e) f0 f1 f3 f4 f5
  refine PySem.W.methodCall_KW (pl := pl) (wpAny_Name (wpAny_loadName_local hkind hk (m := fun x => if x = rn then some (Value.ref a) else m x) (v := .ref a) (by rw [hCl]; exact hn') (if_pos rfl) ?_) hrn) ht
  refine getmeth_rd J2 hrd hc hme hlm ?_
  refine PySem.W.callWith_K0 (first := [.ref a]) J2.kIn hme.kp (wpAny_call (codeAny_mono (told_raw (k := k) F S hb hloc hg hm hself hr J2.env0 hrd hc hn hl hq) fun r s4 hq4 => ?_))
  cases r with
  | error e => exact False.elim hq4
  | ok fl =>
    cases fl with
    | next => exact False.elim hq4
    | brk => exact False.elim hq4
    | cont => exact False.elim hq4
    | ret u =>
      obtain ⟨L, its, c', rfl, g1, g2, g3, g4, g5, g6, g7⟩ := hq4
      have sz : s.heap.objs.size ≤ h'.objs.size := by
        have : h'.objs.size = s.heap.objs.size := hs'.1
        omega
      have oldL : ∀ b o, s.heap.get? b = some o → b ≠ L := fun b o e => Nat.ne_of_lt (Nat.lt_of_lt_of_le (Heap.lt_size e) (Nat.le_trans sz g1))
      have kD : s4.heap.get? D = some (lstObj acc c) := g5 D _ ((hs'.2 D hDC).trans hD)
      refine append_at kD (fun h5 sb5 e5 => hP _ ⟨L, its, c + 1, c', _, e5, (hn'.keeps g5).sameBut sb5 (Ne.symm hDC), Nat.le_trans sz g1, (sb5.2 L (Ne.symm (oldL D _ hD))).trans g2, g3, g4, fun b o hbC hbD e => (sb5.2 b hbD).trans (g5 b o ((hs'.2 b hbC).trans e)), g6, g7⟩) hDz
end
end Mi
end

section
set_option Elab.async false
set_option linter.all false
set_option maxRecDepth 100000
set_option maxHeartbeats 2000000
namespace Mi
open PySem PySem.Spec PyProof.Rows L2 GenW

/-! ### [x.m() for x in g(..)], m: return list(self.f) -/
def tellM (c fld mt : Str) : MV → Option (List MV)
  | .obj c' fs => if c' = c then (match fs.lookup mt, fs.lookup fld with
    | none, some (.tup xs) => some xs
    | _, _ => none) else none
  | _ => none
def tellL (tl : MV → Option (List MV)) : List MV → Option (List MV)
  | [] => some []
  | a :: r => (match tl a, tellL tl r with
    | some xs, some ys => some (.con xs :: ys)
    | _, _ => none)
theorem tellL_mem {tl : MV → Option (List MV)} : ∀ {as ys : List MV} {a : MV}, tellL tl as = some ys → a ∈ as → ∃ xs, tl a = some xs
  | b :: r, ys, a, e, h => by
    unfold tellL at e
    cases q1 : tl b with
    | none => rw [q1] at e; cases e
    | some xs =>
      cases q2 : tellL tl r with
      | none => rw [q1, q2] at e; cases e
      | some zs =>
        rcases List.mem_cons.mp h with h | h
        · exact ⟨xs, by rw [h]; exact q1⟩
        · exact tellL_mem q2 h
theorem tellL_app {tl : MV → Option (List MV)} {a : MV} {xs : List MV} (h : tl a = some xs) : ∀ {as ys : List MV}, tellL tl as = some ys → tellL tl (as ++ [a]) = some (ys ++ [.con xs])
  | [], ys, e => by
    cases e
    show tellL tl [a] = _
    unfold tellL
    rw [h]
    rfl
  | b :: r, ys, e => by
    unfold tellL at e
    cases q1 : tl b with
    | none => rw [q1] at e; cases e
    | some zs =>
      cases q2 : tellL tl r with
      | none => rw [q1, q2] at e; cases e
      | some ws =>
        rw [q1, q2] at e
        cases e
        show tellL tl (b :: (r ++ [a])) = _
        unfold tellL
        rw [q1, tellL_app h q2]
        rfl
def lcEnd (tl : MV → Option (List MV)) (xs : List Str) (o : GO) : Res MV := match tellL tl o.1 with
  | none => .bad
  | some ys => if o.1.length ≤ sizeLine then (match o.2 with
    | .nx _ m2 => .ok (.con ys) m2
    | .rt .non m2 => .ok (.con ys) m2
    | .exc x _ m2 => if xs.contains x.cls = true then .exc x m2 else .bad
    | _ => .bad) else .bad
def eLcG (h : List MV → MH → GO) (tl : MV → Option (List MV)) (xs : List Str) (n : Nat) (af : ME → MM (List MV)) : EM := fun e m => match af e m with
  | .ok as m1 => if as.length = n then lcEnd tl xs (h as m1) else .bad
  | .exc x m1 => .exc x m1
  | .bad => .bad
/-- what is known of an end that is no bad one -/
theorem lcEnd_good {tl : MV → Option (List MV)} {xs : List Str} {o : GO} (h : lcEnd tl xs o ≠ .bad) : ∃ ys, tellL tl o.1 = some ys ∧ GoodO o ∧ (∀ outs m, EndM o outs m → lcEnd tl xs o = .ok (.con ys) m) ∧ ∀ x m, ExcM o x m → lcEnd tl xs o = .exc x m ∧ xs.contains x.cls = true := by
  unfold lcEnd at h ⊢
  cases q : tellL tl o.1 with
  | none => rw [q] at h; exact absurd rfl h
  | some ys =>
    rw [q] at h
    simp only at h ⊢
    by_cases hz : o.1.length ≤ sizeLine
    · rw [if_pos hz] at h ⊢
      refine ⟨ys, rfl, ⟨hz, ?_⟩, fun outs m he => ?_, fun x m he => ?_⟩
      · cases q2 : o.2 with
        | nx e m => trivial
        | rt a m =>
          rw [q2] at h
          cases a <;> first | trivial | exact h rfl
        | exc x e m => trivial
        | bk _ _ => rw [q2] at h; exact h rfl
        | ct _ _ => rw [q2] at h; exact h rfl
        | bad => rw [q2] at h; exact h rfl
      · obtain ⟨_, ⟨e, q2⟩ | q2⟩ := he
        · rw [q2]
        · rw [q2]
      · obtain ⟨e, q2⟩ := he
        rw [q2] at h ⊢
        simp only at h ⊢
        by_cases hx : xs.contains x.cls = true
        · rw [if_pos hx]; exact ⟨rfl, hx⟩
        · rw [if_neg hx] at h; exact absurd rfl h
    · rw [if_neg hz] at h; exact absurd rfl h
/-- what the comprehension has made of what is out -/
def lcPr (K : PySem.W.Frag) (cn : Cn) (tl : MV → Option (List MV)) (D C : Addr) : List MV → List (Addr × Obj) → Rho → Hp → Prop := fun outs cp r H =>
  ∃ acc c ls dob ys, cp = [(D, lstObj acc c), (C, dob)] ∧ Vals ls acc.toList ∧ tellL tl outs = some ys ∧ RVs K cn r H ys ls ∧ acc.size = outs.length ∧ (∃ es ep, dob.data = .dict es ep) ∧ ∀ h : Heap, h.get? C = some dob → ∃ m, h.Ns C m
theorem lcPr_mono {K : PySem.W.Frag} {cn : Cn} {tl : MV → Option (List MV)} {D C : Addr} : ∀ outs cp r H r' H', lcPr K cn tl D C outs cp r H → Ext r H r' H' → lcPr K cn tl D C outs cp r' H' :=
  fun outs cp r H r' H' ⟨acc, c, ls, dob, ys, h1, h2, h3, h4, h5⟩ x => ⟨acc, c, ls, dob, ys, h1, h2, h3, h4.ext x, h5⟩
theorem RoomG.in1 {k : Nat} {A : Around} (r : RoomG (k + 1) A) : RoomG k A.in1 := ⟨r.room.in1, r.gd⟩
/-- the facts of def m(self): return list(self.f) -/
structure TellD (K : PySem.W.Frag) (mg : Str → Option Value) (Cr : Addr) (mt fld : Str) (f : Addr) : Prop where
  ex : ∃ (xn qual : Str) (params : Arguments) (scope : Scope) (kws : List (Str × V)) (fd : FuncData) (self : Str) (p1 p2 p3 p4 p5 : Pos),
    FunD K xn qual params [.Return (some (.Call (.Name "list" p1) [.Attribute (.Name self p2) fld p3] [] p4)) p5] scope [] kws f fd ∧ FnScope [self] [self] scope ∧
    (∀ (kV doc pm : Value) (an : Option Addr) (cdv ct : Value) (us : List Value), us.length = 1 → bindArgs (PySem.W.fnOf xn qual params [.Return (some (.Call (.Name "list" p1) [.Attribute (.Name self p2) fld p3] [] p4)) p5] scope .none kV doc pm an cdv ct) ⟨us, []⟩ = pure ([self].zip us)) ∧
    scope.names.lookup self = some .local ∧ (∀ (n : Nat) (cdv : Value), (envOfC qual scope n f cdv).kindOf "list" = some .globalImplicit) ∧ (self == ("__debug__" : Str)) = false
  lst : mg "list" = none
  cl : Cls K Cr
  me : Meth K Cr mt f
  na : NoAttr K Cr fld
section
variable {X : Cx} {cn : Cn} {W : WX}
theorem e_lcG {c fld mt rn gn : Str} {f g : Addr} {n k : Nat} {h : List MV → MH → GO} {xs : List Str} {a : Expr} {es : List Expr} {af : ME → MM (List MV)} {scope : Scope} {p6 p7 p8 apos p9 p10 pos : Pos} {pl : Env → Sem Bool}
    (T : TellD X.K X.mg (cn c) mt fld f) (Y : FnY X.prog X.w X.K X.mg X.base cn k n g h) (hr : RoomG (k + 1) X.A) (hs : X.stack = X.env :: X.outer) (hf : X.env.frame = some X.env.locals) (tk : Takes X W) (hxs : ∀ x ∈ xs, PySem.W.subIn X.K (.ref (cn x)) (.type "StopIteration") = some false)
    (hm : X.mg gn = some (.ref g)) (hk : PySem.W.keepIn X.K (.ref g) = true) (ha : JA X cn W (a :: es) af) (hg : Gl X gn := by rfl) (hdb : (gn == ("__debug__" : Str)) = false := by decide)
    (he : starEach (a :: es) X.env = (false, eval a X.env) :: starEach es X.env := by rfl) (hpl : (backTo p9 (starEach es X.env)).any (·.1) = false := by rfl)
    (hkind : scope.kind = .function := by rfl) (hnames : ∀ y ∈ scope.names, scope.names.lookup y.1 = some NameKind.local ∧ y.2 = NameKind.local := by decide) (hlook : scope.names.lookup rn = some NameKind.local := by rfl) (hrn : (rn == ("__debug__" : Str)) = false := by decide)
    (hfs : ∀ x, foldedSetIterable (.Call (.Name gn p8) (a :: es) [] p9) X.env x = pure x := by intro _; rfl)
    (ht : ∀ cenv : Env, eval (.Call (.Attribute (.Name rn p6) mt apos) [] [] p10) cenv = (do
      let ov ← eval (.Name rn p6) cenv
      standAt apos.atName
      let (f, first) ← holding [ov] (getMethod ov mt (pl cenv))
      callWith p10 f first (backTo p10 (starEach [] cenv)) (backToKw p10 (keywordEach [] cenv))) := by intro _; rfl) :
    JE X cn W (.ListComp (.Call (.Attribute (.Name rn p6) mt apos) [] [] p10) [⟨.Name rn p7, .Call (.Name gn p8) (a :: es) [] p9, [], 0⟩] scope pos) (eLcG h (tellM c fld mt) xs n af) := by
  refine ⟨fun pins s σ H Q I w => ?_⟩
  obtain ⟨r, m, e, hsr, hhr, w⟩ := w
  rw [eval_ListComp]
  refine comprehension_at (use := none) rfl hfs (closure_ok fun y hy e => by rw [(hnames y hy).2] at e; cases e) hkind (fun y hy _ => (hnames y hy).1) ?_
  show wpAny (model X.prog X.w) X.A (eval (.Call (.Name gn p8) (a :: es) [] p9) X.env) _ _ s
  refine wpAny_Call_Name_kw (ld_glob I hg hm ?_ hdb)
  refine PySem.W.callWith_K (h₀ := X.base) I.ok.mod.kin hk (thn (ha.run p9 pins s σ H (fun vs H1 => ∃ r1 m1 as, Ext r H r1 H1 ∧ HR X.K cn r1 m1 H1 ∧ RVs X.K cn r1 H1 as vs ∧ as.length = n ∧ Wp (lcEnd (tellM c fld mt) xs (h as m1)) (PostE X.K cn r H Q) (PostX X.K cn W σ r H)) I ⟨r, m, e, hsr, hhr, ?_⟩) fun us s1 ⟨vs, H1, I1, rv, r1, m1, as, x1, hr1, hv, hlen, w1⟩ => ⟨I1.kIn, ?_⟩) he hpl
  · unfold eLcG at w
    cases q : af e m with
    | bad => rw [q] at w; exact w.elim
    | exc x m' => rw [q] at w; exact w
    | ok as m1 =>
      rw [q] at w
      simp only at w
      intro r1 H1 vs x1 hr1 hv
      by_cases hl : as.length = n
      · rw [if_pos hl] at w; exact ⟨r1, m1, as, x1, hr1, hv, hl, w⟩
      · rw [if_neg hl] at w; exact w.elim
  generalize ho : h as m1 = o at w1
  have hnb : lcEnd (tellM c fld mt) xs o ≠ .bad := fun z => by rw [z] at w1; exact w1
  obtain ⟨ys0, ht0, hgood, hend, hexc⟩ := lcEnd_good hnb
  refine wpAny_call (codeAny_mono (Y X.A X.stack s1 H1 us vs r1 m1 as (hr.mono (Nat.le_succ _)) I1.env0 rv hr1 hv hlen (by rw [ho]; exact hgood)) fun res s2 hq => ?_)
  rw [ho] at hq
  cases res with
  | error x => exact False.elim hq
  | ok fl =>
    cases fl with
    | next => exact False.elim hq
    | brk => exact False.elim hq
    | cont => exact False.elim hq
    | ret u =>
      obtain ⟨ga, gi, code, rfl, ha1, ha2, hgen, hgs, os2, b2, nl2, kp2, hHa, wake⟩ := hq
      refine wpAny_pyIter_gen hgen ?_
      refine wpAny_newObj_type (newEnv_comp ?_) (by show 0 ≤ sizeLine; decide)
      have key : ∀ (cenv : Env) (D C : Addr) (s4 : Shared), cenv.locals = C → cenv.frame = X.env.frame → cenv.kindOf rn = some NameKind.local → cenv.scope.kind = .function → s2.heap.objs.size ≤ D → s2.heap.objs.size ≤ C → D ≠ C → (∀ b o, s2.heap.get? b = some o → s4.heap.get? b = some o) →
          s4.heap.get? D = some (lstObj #[] 0) → s4.heap.Ns C (fun _ => none) → s4.gens = s2.gens → s4.os = s2.os →
          codeAny (model X.prog X.w) X.A (.compStart (.ListComp (.Call (.Attribute (.Name rn p6) mt apos) [] [] p10) [⟨.Name rn p7, .Call (.Name gn p8) (a :: es) [] p9, [], 0⟩] scope pos) 0 (.ref ga) (.ref D) cenv) (compEnds (model X.prog X.w) X.A X.xe none (EP X pins σ Q) (.ref D) cenv) s4 := by
        intro cenv D C s4 hCl hcf hk4 hkd hD2 hC2 hDC kp4 hD4 hN4 hg4 ho4
        obtain ⟨xn, qual, params, scopeF, kws, fd, self, p1, p2, p3, p4, p5, FD, SF, hbF, hlocF, hgF, hselfF⟩ := T.ex
        have hh : X.A.handled = none := hr.room.hd
        have hdp : X.A.depth < recursionLimit := by have := hr.room.dp; omega
        have sz12 : s1.heap.objs.size ≤ s2.heap.objs.size := Nat.le_trans ha1 (Nat.le_of_lt ha2)
        have gaD : ga ≠ D := Nat.ne_of_lt (Nat.lt_of_lt_of_le ha2 hD2)
        have gaC : ga ≠ C := Nat.ne_of_lt (Nat.lt_of_lt_of_le ha2 hC2)
        have b4 : AllBare s4.gens := by rw [hg4]; exact b2
        have gl4 : gi < s4.gens.size := by rw [hg4]; exact (Array.getElem?_eq_some_iff.mp hgs).1
        have cl4 : cStatics < s2.heap.objs.size := let ⟨_, hn, _⟩ := nl2; hn.lt
        have oldC : ∀ b o, s1.heap.get? b = some o → b ≠ C := fun b o e => Nat.ne_of_lt (Nat.lt_of_lt_of_le (Heap.lt_size e) (Nat.le_trans sz12 hC2))
        have oldD : ∀ b o, s1.heap.get? b = some o → b ≠ D := fun b o e => Nat.ne_of_lt (Nat.lt_of_lt_of_le (Heap.lt_size e) (Nat.le_trans sz12 hD2))
        obtain ⟨oC0, esC, epC, hoC0, hdC0, hskC, hnfC⟩ := hN4
        have pr0 : lcPr X.K cn (tellM c fld mt) D C [] [(D, lstObj #[] 0), (C, oC0)] r1 H1 := ⟨#[], 0, [], oC0, [], rfl, .nil, rfl, .nil, rfl, ⟨_, _, hdC0⟩, fun h e => ⟨_, oC0, esC, epC, e, hdC0, hskC, hnfC⟩⟩
        have wk := wake X.A.in1 (lcPr X.K cn (tellM c fld mt) D C) [(D, lstObj #[] 0), (C, oC0)] (s4.setGen gi .running) lcPr_mono hr.in1 I1.ok.frames kp4 (ho4.trans os2) (allBare_setGen b4 rfl) pr0 fun p hp => by
          rcases List.mem_cons.mp hp with hp | hp
          · rw [hp]; exact ⟨hD2, hD4, fun v q => by cases q⟩
          · rw [List.mem_singleton.mp hp]; exact ⟨hC2, hoC0, fun v q => by rw [hdC0] at q; cases q⟩
        have loop : codeAny (model X.prog X.w) X.A (.compLoop (.ListComp (.Call (.Attribute (.Name rn p6) mt apos) [] [] p10) [⟨.Name rn p7, .Call (.Name gn p8) (a :: es) [] p9, [], 0⟩] scope pos) 0 (.ref ga) (.ref D) cenv) (compEnds (model X.prog X.w) X.A X.xe none (EP X pins σ Q) (.ref D) cenv) s4 := by
          refine compLoop_any (fun n5 s5 => s5.heap.IsGen ga gi ∧ s5.heap.NoLimit ∧ ∃ gs, s5.gens[gi]? = some gs ∧ gs.Goes (model X.prog X.w) X.A.in1 (REndM X.prog X.w X.K cn X.stack s1 H1 r1 o ga gi (lcPr X.K cn (tellM c fld mt) D C)) (YItemM X.prog X.w X.K cn X.stack s1 H1 r1 o ga gi (lcPr X.K cn (tellM c fld mt) D C)) n5 (.send .none) (s5.setGen gi .running))
            (fun n5 s5 ⟨hg5, hl5, gs5, hgs5, hgo5⟩ => ?_) sizeLine ⟨hgen.keeps kp4, nl2.keeps kp4, .fresh code, by rw [hg4]; exact hgs, ⟨rfl, wk⟩⟩
          have gl5 : gi < s5.gens.size := (Array.getElem?_eq_some_iff.mp hgs5).1
          refine wpAny_gsz (n := gi + 1) gl5 (next_genG (A := X.A) hh hl5 hdp hg5 hgs5 hgo5 (fun v s₁ gs' hbare hv => ?_) (fun s₁ hp h' hk' => ?_) fun x s₁ hx => ?_)
          · -- an item
            intro hsz5
            obtain ⟨os1, b1, nl1, ig1, outs, b, x, cp, r', m', H', hn5, rx, rb, hr', x', hbO, hpr, hcp, un, hok, hkk⟩ := hv
            obtain ⟨acc, cD, ls, dob, ys, rfl, vls, tl, rvs, hsz, _, hNs⟩ := hpr
            obtain ⟨pD, nD⟩ := hcp (D, lstObj acc cD) List.mem_cons_self
            obtain ⟨pC, nC⟩ := hcp (C, dob) (List.mem_cons_of_mem _ List.mem_cons_self)
            obtain ⟨mC, hnC⟩ := hNs s₁.heap pC
            obtain ⟨xsb, htb⟩ := tellL_mem ht0 hbO
            have hb' : ∃ fs, b = .obj c fs ∧ fs.lookup mt = none ∧ fs.lookup fld = some (.tup xsb) := by
              unfold tellM at htb
              split at htb
              · rename_i c' fs
                by_cases hc : c' = c
                · rw [if_pos hc] at htb
                  subst hc
                  split at htb
                  · rename_i q1 q2
                    cases htb
                    exact ⟨fs, rfl, q1, q2⟩
                  · cases htb
                · rw [if_neg hc] at htb; cases htb
              · cases htb
            obtain ⟨fs, rfl, q1, q2⟩ := hb'
            have J : Inv X pins σ H' (s₁.setGen gi gs') := I1.call' (ch := []) os1 un hok (allBare_setGen b1 hbare) (fun _ z => nomatch z)
            cases rb with
            | obj hob tfs =>
              obtain ⟨vf, l1, l2⟩ := tfs.lookup q2
              cases l2 with
              | tup hq rvx =>
                rename_i qa vsx
                cases rx
                refine wpAny_of_eq (a := ()) rfl ?_
                refine wpAny_mono (turn_raw (k := k) (pl := pl cenv) rfl FD SF hbF hlocF hgF T.lst hselfF hrn hr.room J (.inr ⟨_, hob⟩) T.cl T.me (tfs.none_ q1) T.na l1 hq hCl hkd hk4 hnC (I1.fpOk (Nat.le_trans sz12 hC2) nC) pD hDC (by rw [hsz]; omega) (ht cenv) (fun s6 ⟨L, its, c2, c', mC2, g1, g2, g3, g4, g5, g6, g7, g8, g9⟩ => ?_)) (fun _ s2' h2 => wpAny_tests_nil (by rw [if_pos rfl]; exact h2)) (fun _ _ z => z)
                have g7' : ∀ b o, b ≠ C → b ≠ D → s₁.heap.get? b = some o → s6.heap.get? b = some o := g7
                have g3' : s₁.heap.objs.size ≤ L := g3
                obtain ⟨oC, es2, ep2, hoC, hdC, hskC2, hnfC2⟩ := g2
                have nL : H' L = none := hok.fresh g3'
                have LD : D ≠ L := Nat.ne_of_lt (Nat.lt_of_lt_of_le (Heap.lt_size pD) g3')
                have LC : C ≠ L := Nat.ne_of_lt (Nat.lt_of_lt_of_le (Heap.lt_size pC) g3')
                have neCD : ∀ (b : Addr) (u : HO), H' b = some u → ∀ c0, (c0 = b ∨ H' c0 = some (.own b)) → c0 ≠ C ∧ c0 ≠ D := fun b u q c0 hc => by
                  constructor
                  · rintro rfl
                    rcases hc with z | z
                    · rw [z, q] at nC; cases nC
                    · rw [z] at nC; cases nC
                  · rintro rfl
                    rcases hc with z | z
                    · rw [z, q] at nD; cases nD
                    · rw [z] at nD; cases nD
                have old : ∀ b u, H' b = some u → upd H' L (.frz (lstObj its c') (.lst vsx)) b = some u := upd_old nL
                have xf : Ext r' H' r' (upd H' L (.frz (lstObj its c') (.lst vsx))) := .grow0 old
                have bare6 : AllBare s6.gens := by rw [g8]; exact allBare_setGen b1 hbare
                have slp : Slp X.prog X.w [(D, lstObj acc cD), (C, dob)] [(D, lstObj (acc.push (.ref L)) c2), (C, oC)] H' (upd H' L (.frz (lstObj its c') (.lst vsx))) s₁ (s6.setGen gi .running) := by
                  refine ⟨g9, allBare_setGen bare6 rfl, fun b o hb e => g7' b o (fun z => hb (C, dob) (List.mem_cons_of_mem _ List.mem_cons_self) z.symm) (fun z => hb (D, lstObj acc cD) List.mem_cons_self z.symm) e, old, fun b u hb hb2 => ?_, fun b u q => ?_, fun p hp => ?_⟩
                  · by_cases z : b = L
                    · rw [z]; exact g3'
                    · rw [upd_ne z, hb] at hb2; cases hb2
                  · by_cases z : b = L
                    · subst z
                      rw [upd_same] at q
                      cases q
                      exact ⟨g4, g6, its.toList, c', g5, by rw [Array.toArray_toList]; exact g4⟩
                    · rw [upd_ne z] at q
                      exact (hok b u q).stay (fun c0 v hc e => g7' c0 v (neCD b u q c0 hc).1 (neCD b u q c0 hc).2 e) (fun c0 z => old _ _ z) fun c0 xs z => old _ _ z
                  · rcases List.mem_cons.mp hp with hp | hp
                    · rw [hp]
                      exact ⟨g1, (upd_ne LD).trans nD, (fun v z => by cases z), .inr ⟨_, List.mem_cons_self, rfl⟩⟩
                    · rw [List.mem_singleton.mp hp]
                      exact ⟨hoC, (upd_ne LC).trans nC, (fun v z => by rw [hdC] at z; cases z), .inr ⟨_, List.mem_cons_of_mem _ List.mem_cons_self, rfl⟩⟩
                have pr' : lcPr X.K cn (tellM c fld mt) D C (outs ++ [.obj c fs]) [(D, lstObj (acc.push (.ref L)) c2), (C, oC)] r' (upd H' L (.frz (lstObj its c') (.lst vsx))) := by
                  refine ⟨acc.push (.ref L), c2, ls ++ [.ref L], oC, ys ++ [.con xsb], rfl, ?_, tellL_app htb tl, (rvs.ext xf).app (.one (.con ⟨_, upd_same⟩ (rvx.ext xf))), ?_, ⟨_, _, hdC⟩, fun h e => ⟨_, oC, es2, ep2, e, hdC, hskC2, hnfC2⟩⟩
                  · rw [Array.toList_push]
                    exact vls.append (.cons rfl .nil)
                  · rw [Array.size_push, hsz, List.length_append, List.length_singleton]
                have kf := hkk (s6.setGen gi .running) _ _ slp pr'
                cases n5 with
                | zero => exact kf.elim
                | succ n6 =>
                  refine ⟨n6, Nat.lt_succ_self _, ?_, ?_, gs', ?_, kf⟩
                  · obtain ⟨og, nm, qn, hog, rr⟩ := ig1
                    exact ⟨og, nm, qn, g7' ga og gaC gaD hog, rr⟩
                  · obtain ⟨mc, hns, hnn⟩ := nl1
                    exact ⟨mc, hns.at' fun o e => g7' _ o (Nat.ne_of_lt (Nat.lt_of_lt_of_le cl4 hC2)) (Nat.ne_of_lt (Nat.lt_of_lt_of_le cl4 hD2)) e, hnn⟩
                  · rw [g8]
                    refine setGen_at ?_
                    have q : (s₁.setGen gi gs').gens.size = s₁.gens.size := setGen_size _ _ _
                    have hsz' : gi + 1 ≤ (s₁.setGen gi gs').gens.size := hsz5
                    omega
          · -- the end
            intro hsz5
            obtain ⟨outs, cp, r', m', H', os1, b1, un, hok, hpr, hcp, x', hr', hEnd⟩ := hp
            obtain ⟨acc, cD, ls, dob, ys, rfl, vls, tl, rvs, hsz, _, hNs⟩ := hpr
            obtain ⟨pD, nD⟩ := hcp (D, lstObj acc cD) List.mem_cons_self
            obtain ⟨pC, nC⟩ := hcp (C, dob) (List.mem_cons_of_mem _ List.mem_cons_self)
            rw [hend outs m' hEnd] at w1
            have ey : ys = ys0 := by rw [hEnd.1, ht0] at tl; exact (Option.some.inj tl).symm
            subst ey
            obtain ⟨mC, hnC⟩ := hNs s₁.heap pC
            refine ⟨mC, by rw [hCl]; exact hnC.keeps hk', fun h2 sb => ep_lock ⟨.ref D, upd H' D (.lst ls), ?_, rfl, lkq_list hr' rvs (PostE.ext w1 (x1.trans x')) D nD⟩⟩
            rw [hCl] at sb
            have k2 : ∀ b o, b ≠ C → s₁.heap.get? b = some o → h2.get? b = some o := fun b o hb e => (sb.2 b hb).trans (hk' b o e)
            have hlenl := vls.length
            refine I1.drained (acc := acc) (c := cD) (Nat.le_trans sz12 hD2) ?_ (k2 D _ hDC pD) vls ExOk.nil os1 (allBare_setGen b1 rfl) ⟨fun b o e n hb hx => k2 b o (oldC b o e) (un.keep b o e n hb hx), fun b o e n hb hx => let ⟨sl, q⟩ := un.slot b o e n hb hx; ⟨sl, k2 _ _ (oldC b o e) q⟩, un.free, fun b o e hx => let ⟨o', q⟩ := un.there b o e hx; ⟨o', k2 _ _ (oldC b o e) q⟩, un.tups, un.frzs, un.tbls⟩ (fun b u q => (hok b u q).stay (fun c v hc e => k2 c v ?_ e) (fun _ z => z) fun _ _ z => z) nD
            · rw [hlenl, Array.length_toList, hsz, hEnd.1]; exact hgood.1
            · rintro rfl
              rcases hc with z | z
              · rw [z, q] at nC; cases nC
              · rw [z] at nC; cases nC
          · -- an exception
            obtain ⟨hgx, cp, outs, r', H', hpr, hx⟩ := hx
            obtain ⟨acc, cD, ls, dob, ys, rfl, vls, tl, rvs, hsz, _, hNs⟩ := hpr
            have hW : ∀ cls d H', XKof X.K cn r1 H1 (ExcM o) cls d H' → W cls d σ H' := fun cls d H' ⟨r2, m2, x2, xx, hr2, er, q⟩ => by
              rw [(hexc x2 m2 q).1] at w1
              exact w1 r2 H' cls d (x1.trans xx) hr2 er
            have hns : NoStop X.K (XKof X.K cn r1 H1 (ExcM o)) := fun cls d H' ⟨r2, m2, x2, xx, hr2, er, q⟩ => by
              rw [er.1]
              exact hxs x2.cls (List.contains_iff_mem.mp (hexc x2 m2 q).2)
            have hcx : CX X.prog X.w X.stack H1 s1 (XKof X.K cn r1 H1 (ExcM o)) x s₁ := by
              obtain ⟨a, B, H2, cls, d, y1, y2, y3, y4, y5, y6, y7, y8, _⟩ := hx
              exact ⟨a, B, H2, cls, d, y1, y2, y3, y4, y5, y6, y7, y8⟩
            have kin : X.K.In s₁.heap := by
              obtain ⟨a, B, H2, cls, d, _, fl, _, ub, _⟩ := id hcx
              refine I1.ok.mod.kin.keeps fun b o eb => fl.1 b o (ub.keep b o (I1.bs b o eb).1 (I1.bs b o eb).2 fun hm => ?_)
              rcases List.mem_cons.mp (I1.stkSub b hm) with z | z
              · have h1 := Heap.lt_size eb
                have h2 := Nat.le_trans I1.ok.bsz I1.ok.above
                rw [z] at h1
                exact absurd (Nat.lt_of_lt_of_le h1 h2) (Nat.lt_irrefl _)
              · exact I1.ok.nofr eb z
            have bx : AllBare s₁.gens := by
              obtain ⟨a, B, H2, cls, d, y1, y2, y3, y4, y5, y6, y7, y8⟩ := hcx
              exact y7
            obtain ⟨mC, hnC⟩ := hNs s₁.heap (hx.pin (C, dob) (List.mem_cons_of_mem _ List.mem_cons_self))
            exact ⟨hgx, notStop_of hns kin hcx, fun _ => comp_fail hs hf tk hcf hCl I1 hW hx (List.mem_cons_of_mem _ List.mem_cons_self) (Nat.le_trans sz12 hC2) hnC rfl rfl (allBare_setGen bx rfl)⟩
        exact codeAny_compStart_list loop (wpAny_pyIter_gen (hgen.keeps kp4) loop)
      refine key _ s2.heap.objs.size (s2.heap.push { cls := .type "list", data := .seq ([] : List Value).toArray }).objs.size _ rfl rfl ?_ ?_ (Nat.le_refl _) (by rw [Heap.size_push]; exact Nat.le_succ _) (by rw [Heap.size_push]; exact Nat.ne_of_lt (Nat.lt_succ_self _)) (fun b o e => pushCells_keeps _ _ _ _ (Heap.get?_push_of_some _ (Heap.get?_push_of_some _ e))) (pushCells_keeps _ _ _ _ (Heap.get?_push_of_some _ (Heap.get?_push_size _ rfl))) ((Heap.Ns.new ..).keeps fun b o e => pushCells_keeps _ _ _ _ e) rfl rfl
      · exact lookup_relabel_local hlook
      · exact hkind
end
end Mi
end

section
set_option Elab.async false
set_option linter.all false
set_option maxRecDepth 100000
set_option maxHeartbeats 2000000
namespace Mi
open PySem PySem.Spec PyProof.Rows L2

/-! ### int(x), max, min of two, list(x), tuple(x) -/
section
variable {X : Cx} {cn : Cn}
def intO : OPn := fun as m => match as with
  | [.int i] => some (.int i, m)
  | [.bl b] => some (.int (if b then 1 else 0), m)
  | _ => none
theorem call_intM : CallR X (.type "int") (RMn X.K cn intO) := by
  intro pins s σ H xs us Q I rs ⟨r, m, as, c, m', hr, ha, e, q⟩
  unfold intO at e
  split at e
  · cases e
    cases ha with
    | cons h1 tn =>
      cases tn
      rw [rv_int h1] at rs
      exact call_int1 pins s σ H _ us Q I rs (.inl ⟨_, rfl, q r H _ .refl hr (.int _)⟩)
  · cases e
    cases ha with
    | cons h1 tn =>
      cases tn
      rw [rv_bl h1] at rs
      exact call_int1 pins s σ H _ us Q I rs (.inr ⟨_, rfl, q r H _ .refl hr (.int _)⟩)
  · cases e
def max2O : OPn := fun as m => match as with
  | [.int i, .int j] => some (.int (if j > i then j else i), m)
  | _ => none
def min2O : OPn := fun as m => match as with
  | [.int i, .int j] => some (.int (if j < i then j else i), m)
  | _ => none
theorem call_maxM (hc : X.calm = true) : CallR X (.builtin "max") (RMn X.K cn max2O) := by
  intro pins s σ H xs us Q I rs ⟨r, m, as, c, m', hr, ha, e, q⟩
  unfold max2O at e
  split at e
  · cases e
    cases ha with
    | cons h1 tn =>
      cases tn with
      | cons h2 tn =>
        cases tn
        rw [rv_int h1, rv_int h2] at rs
        exact call_max2 hc pins s σ H _ us Q I rs ⟨_, _, rfl, q r H _ .refl hr (.int _)⟩
  · cases e
theorem call_minM (hc : X.calm = true) : CallR X (.builtin "min") (RMn X.K cn min2O) := by
  intro pins s σ H xs us Q I rs ⟨r, m, as, c, m', hr, ha, e, q⟩
  unfold min2O at e
  split at e
  · cases e
    cases ha with
    | cons h1 tn =>
      cases tn with
      | cons h2 tn =>
        cases tn
        rw [rv_int h1, rv_int h2] at rs
        exact call_min2 hc pins s σ H _ us Q I rs ⟨_, _, rfl, q r H _ .refl hr (.int _)⟩
  · cases e
/-- a list that is never written -/
def listO : OPn := fun as m => match as with
  | [a] => (match itemsM a m with
    | .ok xs _ => some (.con xs, m)
    | _ => none)
  | _ => none
theorem call_listM : CallR X (.type "list") (RMn X.K cn listO) := by
  intro pins s σ H xs us Q I rs ⟨r, m, as, c, m', hr, ha, e, q⟩
  unfold listO at e
  split at e
  · rename_i a
    cases ha with
    | cons h1 tn =>
      cases tn
      split at e
      · rename_i ys m2 q1
        cases e
        obtain ⟨rfl, p, vs, rfl, hq, hys⟩ := items_at hr h1 q1
        exact thn (call_list_of pins s σ H _ us (LkQ Q) I rs ⟨p, vs, rfl, hq.symm, lkq_list hr hys q⟩) fun _ _ z => ep_lock z
      · cases e
  · cases e
def tupleO : OPn := fun as m => match as with
  | [a] => (match itemsM a m with
    | .ok xs _ => some (.tup xs, m)
    | _ => none)
  | _ => none
theorem call_tupleM : CallR X (.type "tuple") (RMn X.K cn tupleO) := by
  intro pins s σ H xs us Q I rs ⟨r, m, as, c, m', hr, ha, e, q⟩
  unfold tupleO at e
  split at e
  · rename_i a
    cases ha with
    | cons h1 tn =>
      cases tn
      split at e
      · rename_i ys m2 q1
        cases e
        obtain ⟨rfl, p, vs, rfl, hq, hys⟩ := items_at hr h1 q1
        refine call_tuple_of pins s σ H _ us Q I rs ⟨p, vs, rfl, ?_⟩
        rcases hq with hq | hq
        · exact .inr ⟨hq, q r H _ .refl hr (.tup hq hys)⟩
        · exact .inl ⟨hq, fun l hl => q r _ _ (ext_tup hl) (hr.tup hl) (.tup (SqT.of upd_same) (hys.ext (ext_tup hl)))⟩
      · cases e
  · cases e
end
end Mi
end

section
set_option Elab.async false
set_option linter.all false
set_option maxRecDepth 100000
set_option maxHeartbeats 2000000
namespace Mi
open PySem PySem.Spec PyProof.Rows L2

/-! ### sets of keys that stand on the heap: what a kind must bear -/
structure SetKd {P : Program} {w : World} {κ : Type} [DecidableEq κ] (kd : HeapKind P w κ) : Prop where
  room : ∀ A : Around, A.units < cLine → kd.room A
  still : ∀ {h h' : Heap} {k : κ} {b : Addr}, kd.is h k b → (∀ c o, h.get? c = some o → (∀ es ep t, o.data ≠ .set es ep t) → h'.get? c = some o) → kd.is h' k b
  noSet : ∀ {h : Heap} {k : κ} {b : Addr}, kd.is h k b → ∃ o, h.get? b = some o ∧ ∀ es ep t, o.data ≠ .set es ep t
  byv : ∀ {A : Around} {E : Value → Shared → Prop} {s : Shared} {k : κ} {b : Addr} {Q : Bool → Shared → Prop}, kd.is s.heap k b → (∀ v, Q v s) → wpAny (model P w) A (hashByValue 8 (.ref b)) Q E s
  cls : ∀ {A : Around} {E : Value → Shared → Prop} {s : Shared} {k : κ} {b : Addr} {Q : Bool → Shared → Prop}, kd.is s.heap k b → Q false s → wpAny (model P w) A (ofAClassStatement 8 (.ref b)) Q E s
section
variable {P : Program} {w : World} {A : Around} {E : Value → Shared → Prop} {s : Shared}
theorem strs_of {k : List Str} {vs : List Value} (h : ItemsAre (strKind P w) k vs) : ∀ v ∈ vs, ∃ z t, v = Value.str z t := by
  induction h with
  | nil => exact fun v hv => nomatch hv
  | @cons k0 v' ks vs h1 _ ih =>
    intro v hv
    rcases List.mem_cons.mp hv with e | hv
    · subst e
      cases v with
      | str z t => exact ⟨z, t, rfl⟩
      | _ => cases h1
    · exact ih v hv
theorem setKd_strs : SetKd (tupleKind (strKind P w)) where
  room := fun _ h => h
  still := fun x hk => let ⟨o, items, n, ho, hc, hd, hi⟩ := x; ⟨o, items, n, hk _ _ ho fun _ _ _ q => (by rw [hd] at q; cases q), hc, hd, hi⟩
  noSet := fun x => let ⟨o, items, n, ho, hc, hd, hi⟩ := x; ⟨o, ho, fun _ _ _ q => by rw [hd] at q; cases q⟩
  byv := fun {A E s k b Q} hk h => by
    have hk : IsTupleKey (strKind P w) s.heap k b := hk
    have hT := hk.typeIs
    obtain ⟨o, items, n, ho, _, hd, hi⟩ := hk
    unfold hashByValue
    refine wpAny_bind (wpAny_specialOf hT F.slot_tuple_hash.lookup ?_)
    show wpAny _ _ (seqItems? (.ref b) >>= _) _ _ s
    refine wpAny_bind (wpAny_seqItems ho hd (wpAny_bind ?_))
    show wpAny _ _ (forIn items _ _) _ _ s
    rw [← Array.forIn_toList]
    refine wpAny_forIn_list _ (fun rest r s' => (r.1 = none ∧ s' = s) ∧ ∀ v ∈ rest, ∃ z t, v = Value.str z t) _ (fun v rest r s' hI => ?_) (fun r s' hI => ?_) _ _ ⟨⟨rfl, rfl⟩, strs_of hi⟩
    · obtain ⟨⟨h1, rfl⟩, hall⟩ := hI
      obtain ⟨z, t, rfl⟩ := hall v List.mem_cons_self
      refine wpAny_bind (wpAny_pure ?_)
      exact wpAny_pure (show wpAny (model P w) A (pure false) Q E s' from wpAny_pure (h false))
    · obtain ⟨⟨h1, rfl⟩, _⟩ := hI
      obtain ⟨r1, r2⟩ := r
      simp only at h1
      subst h1
      exact wpAny_pure (h true)
  cls := fun {A E s k b Q} hk h => by
    have hk : IsTupleKey (strKind P w) s.heap k b := hk
    have hT := hk.typeIs
    obtain ⟨o, items, n, ho, _, hd, hi⟩ := hk
    unfold ofAClassStatement
    refine wpAny_bind (wpAny_typeOf hT ?_)
    dsimp only
    refine wpAny_bind (wpAny_pure ?_)
    rw [if_neg (by decide)]
    refine wpAny_bind (wpAny_seqItems ho hd (wpAny_bind ?_))
    show wpAny _ _ (forIn items _ _) _ _ s
    rw [← Array.forIn_toList]
    refine wpAny_forIn_list _ (fun rest r s' => (r.1 = none ∧ s' = s) ∧ ∀ v ∈ rest, ∃ z t, v = Value.str z t) _ (fun v rest r s' hI => ?_) (fun r s' hI => ?_) _ _ ⟨⟨rfl, rfl⟩, strs_of hi⟩
    · obtain ⟨⟨h1, rfl⟩, hall⟩ := hI
      obtain ⟨z, t, rfl⟩ := hall v List.mem_cons_self
      refine wpAny_bind (wpAny_pure ?_)
      exact wpAny_pure ⟨⟨rfl, rfl⟩, fun u hu => hall u (List.mem_cons_of_mem _ hu)⟩
    · obtain ⟨⟨h1, rfl⟩, _⟩ := hI
      obtain ⟨r1, r2⟩ := r
      simp only at h1
      subst h1
      exact wpAny_pure h
/-! ### the set -/
variable {κ : Type} [DecidableEq κ] {kd : HeapKind P w κ}
structure SetQ (kd : HeapKind P w κ) (h : Heap) (a : Addr) (L : List (Addr × κ)) (es : Array (Int × Value)) (ep : Nat) (t : SetTable) : Prop where
  ob : ∃ o, h.get? a = some o ∧ o.ExactSet ∧ o.data = .set es ep t
  rows : es.toList = L.map fun p => (kd.hash p.2, Value.ref p.1)
  tab : TabOk t (L.map fun p => kd.hash p.2)
  nd : (L.map (·.2)).Nodup
  key : ∀ p ∈ L, kd.is h p.2 p.1
  room : L.length * 5 < t.mask * 3
variable {a : Addr} {L : List (Addr × κ)} {es : Array (Int × Value)} {ep : Nat} {t : SetTable}
theorem SetQ.size {h : Heap} (R : SetQ kd h a L es ep t) : es.size = L.length := by
  have h := congrArg List.length R.rows
  rw [Array.length_toList, List.length_map] at h
  exact h
theorem SetQ.places {h : Heap} (R : SetQ kd h a L es ep t) : t.place.toList.length = L.length := by
  have h := R.tab.sz
  rw [List.length_map] at h
  rw [Array.length_toList]
  exact h
theorem SetQ.fits {h : Heap} (R : SetQ kd h a L es ep t) : t.fits es.size = true := by
  have h1 := R.places
  have h2 := R.size
  have h3 := R.room
  rw [Array.length_toList] at h1
  unfold SetTable.fits SetTable.fill
  rw [R.tab.dm, Bool.and_eq_true, beq_iff_eq, decide_eq_true_eq]
  show t.place.size = es.size ∧ t.place.size + 0 ≤ t.mask
  omega
theorem SetQ.entry {h : Heap} (R : SetQ kd h a L es ep t) {i : Nat} {p : Addr × κ} (e : L[i]? = some p) : es[i]? = some (kd.hash p.2, Value.ref p.1) := by
  rw [← Array.getElem?_toList, R.rows, List.getElem?_map, e]
  rfl
/-- nothing is seen of a search among keys -/
theorem unseen (sk : SetKd kd) {b : Addr} {k : κ} (hk : kd.is s.heap k b) {ys : List Value} (hy : ∀ y ∈ ys, ∃ k' c, y = Value.ref c ∧ kd.is s.heap k' c) {Q : Bool → Shared → Prop} (h : Q false s) : wpAny (model P w) A (searchCouldBeSeen (.ref b) ys) Q E s := by
  unfold searchCouldBeSeen
  refine wpAny_bind ?_
  refine wpAny_forIn_list _ (fun rest r s' => (r.1 = none ∧ s' = s) ∧ ∀ y ∈ rest, ∃ k' c, y = Value.ref c ∧ kd.is s.heap k' c) _ (fun v rest r s' hI => ?_) (fun r s' hI => ?_) _ _ ⟨⟨rfl, rfl⟩, hy⟩
  · obtain ⟨⟨h1, rfl⟩, hall⟩ := hI
    obtain ⟨k', c, rfl, hc⟩ := hall v List.mem_cons_self
    have tl := fun u hu => hall u (List.mem_cons_of_mem _ hu)
    dsimp only
    by_cases hv : (b == c || (carriedByValue (.ref b) && carriedByValue (.ref c))) = true
    · rw [if_pos hv]
      exact wpAny_pure ⟨⟨rfl, rfl⟩, tl⟩
    · rw [if_neg hv]
      refine wpAny_bind (kd.quiet hk ?_)
      rw [if_neg (by decide)]
      refine wpAny_bind (kd.quiet hc ?_)
      rw [if_neg (by decide)]
      refine wpAny_bind (sk.cls hk ?_)
      rw [if_neg (by decide)]
      refine wpAny_bind (sk.cls hc ?_)
      rw [if_neg (by decide)]
      exact wpAny_pure ⟨⟨rfl, rfl⟩, tl⟩
  · obtain ⟨⟨h1, rfl⟩, _⟩ := hI
    obtain ⟨r1, r2⟩ := r
    simp only at h1
    subst h1
    exact wpAny_pure h
/-- a search for the key k at x, from the probe p on: d steps to the first empty slot -/
theorem find_from (sk : SetKd kd) (R : SetQ kd s.heap a L es ep t) {x : Addr} {k : κ} (hx : kd.is s.heap k x) (hu : A.units < cLine) {Q : SetFound → Shared → Prop} (hin : k ∈ L.map (·.2) → Q (.there none) s) :
    ∀ (f d : Nat) (p : SetTable.Probe) (stand : Option SetTable.Probe), stand.getD (t.probeStart (kd.hash k)) = p → p.dummy = none → (∀ q, q < d → (nth t.mask p q).j ∈ t.place.toList) → (nth t.mask p d).j ∉ t.place.toList → d < f → d < 10 * SetTable.turns t.mask →
      (∀ (i : Nat) (pr : Addr × κ), L[i]? = some pr → pr.2 = k → ∃ q, q < d ∧ t.place.toList[i]? = some (nth t.mask p q).j) → (k ∉ L.map (·.2) → Q (.free (nth t.mask p d).j false) s) →
      wpAny (model P w) A (setSearchFrom a (.ref x) (kd.hash k) true f stand) Q E s
  | 0, d, p, stand, _, _, _, _, hf, _, _, _ => absurd hf (Nat.not_lt_zero _)
  | f + 1, d, p, stand, hst, hpd, hb, he, hf, hd10, hre, hout => by
    obtain ⟨o, ho, hex, hd⟩ := R.ob
    have hashAt : ∀ (i : Nat) (pr : Addr × κ), L[i]? = some pr → ((es[i]?.map (·.1)).getD 0) = kd.hash pr.2 := fun i pr hp => by
      rw [R.entry hp]; rfl
    have nog : ¬ t.gaveWay = true := by
      unfold SetTable.gaveWay
      rw [mask_odd R.tab.mok]
      decide
    have dumN : ∀ (n : Nat) (p : SetTable.Probe), p.dummy = none → (nth t.mask p n).dummy = none := by
      intro n
      induction n with
      | zero => exact fun p h => h
      | succ n ih => exact fun p h => ih _ (by unfold adv; split <;> exact h)
    rw [setSearchFrom_succ]
    refine wpAny_bind (wpAny_setState_of ho hd R.fits ?_)
    dsimp only
    rw [if_neg nog]
    rcases go_spec t R.tab.ris R.tab.dm (fun i => (es[i]?.map (·.1)).getD 0) (kd.hash k) (10 * SetTable.turns t.mask) d p hpd hd10 hb he with ⟨q, i, hq, hi, hh, hno, hpr⟩ | ⟨hno, hpr⟩
    · have hil : i < L.length := by
        have h1 := (List.getElem?_eq_some_iff.mp hi).1
        have h2 := R.places
        omega
      obtain ⟨pr, hp⟩ : ∃ pr, L[i]? = some pr := ⟨L[i], List.getElem?_eq_getElem hil⟩
      have hmem := List.mem_of_getElem? hp
      have hprobe : t.probe (fun i => (es[i]?.map (·.1)).getD 0) (kd.hash k) (stand.getD (t.probeStart (kd.hash k))) = some (.candidate (nth t.mask p q).j i (nth t.mask p (q + 1))) := by rw [hst]; exact hpr
      rw [hprobe]
      dsimp only
      have sl := slot_live R.tab.ris hi
      have rest : wpAny (model P w) A (searchRest a (.ref x) (kd.hash k) true f es t (nth t.mask p q).j i (nth t.mask p (q + 1))) Q E s := by
        unfold searchRest
        rw [R.entry hp]
        dsimp only
        refine wpAny_bind (wpAny_holding (kd.eqBool (sk.room _ hu) (R.key pr hmem) hx ?_))
        refine wpAny_bind (wpAny_setState_of ho hd R.fits ?_)
        dsimp only
        by_cases hk : pr.2 = k
        · rw [if_pos (by simp [hk])]
          exact wpAny_pure (hin (List.mem_map.mpr ⟨pr, hmem, hk⟩))
        · rw [if_neg (by simp [hk]), sameMem]
          dsimp only
          simp only [if_true, sl, R.entry hp]
          refine wpAny_bind (wpAny_isSame_ref_self (wpAny_bind (wpAny_pure ?_)))
          simp only [if_true]
          rw [if_neg (by simp [hk])]
          have sh : ∀ j, nth t.mask (nth t.mask p (q + 1)) j = nth t.mask p (q + 1 + j) := fun j => (nth_add t.mask (q + 1) p j).symm
          refine find_from sk R hx hu hin f (d - (q + 1)) (nth t.mask p (q + 1)) _ rfl (dumN _ _ hpd) (fun j hj => by rw [sh]; exact hb _ (by omega)) (by rw [sh, show q + 1 + (d - (q + 1)) = d by omega]; exact he) (by omega) (by omega) (fun i0 p0 h0 hk0 => ?_) fun hn => by
            rw [sh, show q + 1 + (d - (q + 1)) = d by omega]; exact hout hn
          obtain ⟨q0, b1, b2⟩ := hre i0 p0 h0 hk0
          -- what is sought stands behind
          have hq0 : q < q0 := by
            rcases Nat.lt_trichotomy q q0 with z | z | z
            · exact z
            · subst z
              have s0 := slot_live R.tab.ris b2
              rw [sl] at s0
              injection s0 with s0
              subst s0
              rw [hp] at h0
              cases h0
              exact absurd hk0 hk
            · exact absurd ((hashAt i0 p0 h0).trans (congrArg kd.hash hk0)) (hno q0 i0 z b2)
          exact ⟨q0 - (q + 1), by omega, by rw [sh, show q + 1 + (q0 - (q + 1)) = q0 by omega]; exact b2⟩
      by_cases hl : t.led = true
      · rw [if_neg (by simp [hl])]
        exact rest
      · rw [if_pos (by simp [hl])]
        refine wpAny_bind (unseen sk hx (fun y hy => ?_) ?_)
        · obtain ⟨e, he, rfl⟩ := List.mem_map.mp hy
          have he2 : e ∈ es.toList := by
            have : e ∈ es ∧ e.1 = kd.hash k := by simpa using he
            simpa using this.1
          rw [R.rows] at he2
          obtain ⟨p2, hp2, rfl⟩ := List.mem_map.mp he2
          exact ⟨p2.2, p2.1, rfl, R.key p2 hp2⟩
        · rw [if_neg (by decide)]
          exact rest
    · have hprobe : t.probe (fun i => (es[i]?.map (·.1)).getD 0) (kd.hash k) (stand.getD (t.probeStart (kd.hash k))) = some (.empty (nth t.mask p d).j none) := by rw [hst]; exact hpr
      rw [hprobe]
      dsimp only
      refine wpAny_pure (hout fun hm => ?_)
      obtain ⟨p0, h0, hk0⟩ := List.mem_map.mp hm
      obtain ⟨i0, hi0⟩ := List.getElem?_of_mem h0
      obtain ⟨q0, b1, b2⟩ := hre i0 p0 hi0 hk0
      exact hno q0 i0 b1 b2 ((hashAt i0 p0 hi0).trans (congrArg kd.hash hk0))
theorem find_key (sk : SetKd kd) (R : SetQ kd s.heap a L es ep t) {x : Addr} {k : κ} (hx : kd.is s.heap k x) (hu : A.units < cLine) {Q : SetFound → Shared → Prop} (hin : k ∈ L.map (·.2) → Q (.there none) s)
    (hout : ∀ K, k ∉ L.map (·.2) → way t.mask (kd.hash k) K ∉ t.place.toList → (∀ c, c < K → way t.mask (kd.hash k) c ∈ t.place.toList) → Q (.free (way t.mask (kd.hash k) K) false) s) : wpAny (model P w) A (setSearch a (.ref x) (kd.hash k) true) Q E s := by
  have hroom := R.room
  obtain ⟨K, h1, h2, h3⟩ := R.tab.first (by rw [List.length_map]; omega) (kd.hash k)
  have hbig : K < 100000 := by
    have : 10 * SetTable.turns t.mask ≤ 1420 := by
      unfold SetTable.turns
      rcases R.tab.mok with e | e | e <;> omega
    omega
  unfold setSearch
  refine find_from sk R hx hu hin 100000 K _ none rfl rfl h3 h2 hbig h1 (fun i pr hp hk => ?_) fun hn => hout K hn h2 h3
  have hi : (L.map fun p => kd.hash p.2)[i]? = some (kd.hash k) := by rw [List.getElem?_map, hp, ← hk]; rfl
  have hil : i < t.place.toList.length := by
    have := (List.getElem?_eq_some_iff.mp hp).1
    have h2 := R.places
    omega
  obtain ⟨c, hc, e⟩ := R.tab.before h2 hi (List.getElem?_eq_getElem hil)
  exact ⟨c, hc, by rw [List.getElem?_eq_getElem hil, ← e]; rfl⟩
end
end Mi
end

section
set_option Elab.async false
set_option linter.all false
set_option maxRecDepth 100000
set_option maxHeartbeats 2000000
namespace Mi
open PySem PySem.Spec PyProof.Rows L2
section
variable {P : Program} {w : World} {A : Around} {E : Value → Shared → Prop} {s : Shared} {κ : Type} [DecidableEq κ] {kd : HeapKind P w κ} {a : Addr} {L : List (Addr × κ)} {es : Array (Int × Value)} {ep : Nat} {t : SetTable}
/-- the rows in another order -/
theorem order_of (hr : es.toList = L.map fun p => (kd.hash p.2, Value.ref p.1)) {order : Array Nat} (hp : order.toList.Perm (List.range L.length)) :
    ∃ L2 : List (Addr × κ), (order.filterMap (es[·]?)).toList = (L2.map fun p => (kd.hash p.2, Value.ref p.1)) ∧ L2.Perm L ∧ (L2.map fun p => kd.hash p.2) = order.toList.map fun i => (es.map (·.1)).getD i 0 := by
  have ent : ∀ i, es[i]? = (L[i]?).map fun (p : Addr × κ) => (kd.hash p.2, Value.ref p.1) := fun i => by rw [← Array.getElem?_toList, hr, List.getElem?_map]
  refine ⟨order.toList.filterMap fun i => L[i]?, ?_, ?_, ?_⟩
  · rw [Array.toList_filterMap, List.map_filterMap]
    exact congrArg (fun f => List.filterMap f order.toList) (funext ent)
  · have := hp.filterMap fun i => L[i]?
    rw [PySem.List.filterMap_getElem?_range_length] at this
    exact this
  · have hlt : ∀ i ∈ order.toList, i < L.length := fun i hi => List.mem_range.mp (hp.mem_iff.mp hi)
    generalize order.toList = l at hlt
    induction l with
    | nil => rfl
    | cons i l ih =>
      have hi := hlt i List.mem_cons_self
      have e1 : L[i]? = some L[i] := List.getElem?_eq_getElem hi
      rw [List.filterMap_cons_some e1, List.map_cons, List.map_cons, ih fun j hj => hlt j (List.mem_cons_of_mem _ hj)]
      congr 1
      rw [Array.getD_eq_getD_getElem?, Array.getElem?_map, ent, e1]
      rfl
/-- laid anew, larger -/
theorem relay_key (sk : SetKd kd) {o : Obj} (ho : s.heap.get? a = some o) (hex : o.ExactSet) (hd : o.data = .set es ep t) (hr : es.toList = L.map fun p => (kd.hash p.2, Value.ref p.1)) (hsz : t.place.size = es.size) (hdm : t.dummies = #[]) (hfl : es.size ≤ t.mask)
    (nd : (L.map (·.2)).Nodup) (key : ∀ p ∈ L, kd.is s.heap p.2 p.1) {wanted M : Nat} (hw : SetTable.sizeAbove wanted - 1 = M) (hM : MaskOk M) (hw2 : SetTable.sizeAbove wanted ≤ 128) (hn : L.length * 5 < M * 3) {Q : Unit → Shared → Prop}
    (hQ : ∀ h' L' es' ep' t', Heap.SameBut a s.heap h' → SetQ kd h' a L' es' ep' t' → L'.Perm L → Q () { s with heap := h' }) : wpAny (model P w) A (setRelay a wanted) Q E s := by
  have hsl : es.size = L.length := by
    have h := congrArg List.length hr
    rw [Array.length_toList, List.length_map] at h
    exact h
  obtain ⟨t', order, e, hp, T, em, _, _, ed⟩ := relaid_ok t (hs := es.map (·.1)) (wanted := wanted) hw hM (by rw [Array.size_map, hsl]; omega)
  rw [Array.size_map, hsl] at hp
  obtain ⟨L2, r1, r2, r3⟩ := order_of hr hp
  rw [← r3] at T
  have hs2 : (order.filterMap (es[·]?)).size = es.size := by
    have h := congrArg List.length r1
    rw [Array.length_toList, List.length_map, r2.length_eq] at h
    rw [h, hsl]
  rw [setRelay_eq]
  refine wpAny_bind (wpAny_setState_of ho hd ?_ ?_)
  · unfold SetTable.fits SetTable.fill
    rw [hdm, Bool.and_eq_true, beq_iff_eq, decide_eq_true_eq]
    show t.place.size = es.size ∧ t.place.size + 0 ≤ t.mask
    omega
  dsimp only
  rw [if_neg (by rw [sizeLine_eq]; omega), e]
  dsimp only
  refine wpAny_bind ?_
  rw [if_neg (by rw [hs2]; simp)]
  refine wpAny_pure ?_
  dsimp only
  refine wpAny_storeSet_of ho hd ?_ (by rw [hs2, hsl, sizeLine_eq]; omega)
  have sb : Heap.SameBut a s.heap (s.heap.update a (Obj.putSet (order.filterMap (es[·]?)) t')) := Heap.SameBut.update ..
  refine hQ _ L2 (order.filterMap (es[·]?)) (ep + 1) t' sb ⟨⟨_, store_at ho hd, ⟨hex.1, hex.2.1, hex.2.2⟩, rfl⟩, r1, T, (r2.map (·.2)).nodup_iff.mpr nd, fun p hp => ?_, by rw [r2.length_eq, em]; exact hn⟩ r2
  refine sk.still (key p (r2.mem_iff.mp hp)) fun c oc e hne => (sb.2 c ?_).trans e
  rintro rfl
  rw [ho] at e
  cases e
  exact hne _ _ _ hd
/-- a key is put in -/
theorem add_key (sk : SetKd kd) (R : SetQ kd s.heap a L es ep t) {x : Addr} {k : κ} (hx : kd.is s.heap k x) (hu : A.units < cLine) (hfew : L.length + 1 < 64) {Q : Bool → Shared → Prop}
    (hQ : ∀ b h' L' es' ep' t', Heap.SameBut a s.heap h' → SetQ kd h' a L' es' ep' t' → (k ∈ L.map (·.2) → L' = L) → (k ∉ L.map (·.2) → L'.Perm ((x, k) :: L)) → Q b { s with heap := h' }) :
    wpAny (model P w) A (setAddHashed a (.ref x) (kd.hash k)) Q E s := by
  obtain ⟨o, ho, hex, hd⟩ := R.ob
  have hsl := R.size
  have hroom := R.room
  unfold setAddHashed
  refine wpAny_holding ?_
  rw [show (100000 : Nat) = 99999 + 1 from rfl, setAddHashedIn_succ]
  refine wpAny_bind (wpAny_setState_of ho hd R.fits ?_)
  dsimp only
  rw [if_neg (by simp [byScan, Value.scannable])]
  refine wpAny_bind (find_key sk R hx hu (fun hm => ?_) fun K hm hK hb => ?_)
  · exact wpAny_pure (hQ false s.heap L es ep t (Heap.SameBut.refl a s.heap) R (fun _ => rfl) fun z => absurd hm z)
  dsimp only
  refine wpAny_bind (wpAny_setState_of ho hd R.fits ?_)
  dsimp only
  obtain ⟨q1, q2, q3, q4, _, _, _, _, q9⟩ := R.tab.put hK hb
  generalize t.put (way t.mask (kd.hash k) K) = pt at q1 q3 q4 q9 ⊢
  obtain ⟨t1, p⟩ := pt
  dsimp only at q1 q3 q4 q9 ⊢
  subst q1
  generalize hpp : SetTable.below t.place (way t.mask (kd.hash k) K) = p at q2 q3 ⊢
  have hin : (SetTable.insertAt es p (kd.hash k, Value.ref x)).toList = (L.take p ++ (x, k) :: L.drop p).map fun q => (kd.hash q.2, Value.ref q.1) := by
    rw [SetTable.toList_insertAt, R.rows, List.map_append, List.map_cons, List.map_take, List.map_drop]
  rw [List.length_map] at q2 q9
  have pm : (L.take p ++ (x, k) :: L.drop p).Perm ((x, k) :: L) := by
    refine List.perm_middle.trans (List.Perm.cons _ ?_)
    rw [List.take_append_drop]
  have hhs : (L.take p ++ (x, k) :: L.drop p).map (fun q => kd.hash q.2) = (L.map fun q => kd.hash q.2).take p ++ kd.hash k :: (L.map fun q => kd.hash q.2).drop p := by
    rw [List.map_append, List.map_cons, List.map_take, List.map_drop]
  rw [← hhs] at q3
  have hlen := pm.length_eq
  rw [List.length_cons] at hlen
  have hes : (SetTable.insertAt es p (kd.hash k, Value.ref x)).size = L.length + 1 := by
    have h := congrArg List.length hin
    rw [Array.length_toList, List.length_map, hlen] at h
    exact h
  have nd1 : ((L.take p ++ (x, k) :: L.drop p).map (·.2)).Nodup := (pm.map (·.2)).nodup_iff.mpr (List.nodup_cons.mpr ⟨hm, R.nd⟩)
  generalize SetTable.insertAt es p (kd.hash k, Value.ref x) = es1 at hin hes ⊢
  generalize L.take p ++ (x, k) :: L.drop p = L1 at pm hlen q3 nd1 hin
  have key0 : ∀ F : Bool → Sem Bool, (∀ v, wpAny (model P w) A (F v) Q E s) → wpAny (model P w) A (if t1.plain = true then hashByValue 8 (.ref x) >>= F else (pure true : Sem Bool) >>= F) Q E s := fun F hF => by
    split
    · exact wpAny_bind (sk.byv hx fun v => hF v)
    · exact wpAny_bind (wpAny_pure (hF true))
  refine key0 _ fun v => ?_
  have ht2 : ∀ v : Bool, TabOk (if v = true then t1 else { t1 with plain := false }) (L1.map fun q => kd.hash q.2) ∧ (if v = true then t1 else { t1 with plain := false }).mask = t.mask ∧ (if v = true then t1 else { t1 with plain := false }).fill = L.length + 1 := fun v => by
    cases v with
    | true => exact ⟨q3, q4, q9⟩
    | false => exact ⟨⟨q3.ris, q3.dm, q3.sz, q3.mok, q3.bd, q3.reach⟩, q4, q9⟩
  obtain ⟨T2, m2, f2⟩ := ht2 v
  generalize (if v = true then t1 else { t1 with plain := false }) = t2 at T2 m2 f2 ⊢
  refine wpAny_bind (wpAny_storeSet_of ho hd ?_ (by rw [hes, sizeLine_eq]; omega))
  have sb : Heap.SameBut a s.heap (s.heap.update a (Obj.putSet es1 t2)) := Heap.SameBut.update ..
  have ho1 := store_at (es' := es1) (t' := t2) ho hd
  generalize s.heap.update a (Obj.putSet es1 t2) = h1 at sb ho1 ⊢
  have key1 : ∀ p ∈ L1, kd.is h1 p.2 p.1 := fun p hp => by
    have old : kd.is s.heap p.2 p.1 := by
      rcases List.mem_cons.mp (pm.mem_iff.mp hp) with e | hp
      · rw [e]; exact hx
      · exact R.key p hp
    refine sk.still old fun c oc e hne => (sb.2 c ?_).trans e
    rintro rfl
    rw [ho] at e
    cases e
    exact hne _ _ _ hd
  have full : t2.tooFull = decide ((L.length + 1) * 5 ≥ t.mask * 3) := by
    unfold SetTable.tooFull
    rw [f2, m2]
  by_cases hf : (L.length + 1) * 5 ≥ t.mask * 3
  · rw [if_pos (by rw [full]; simp [hf])]
    rw [hsl]
    have hm3 : t.mask = 7 ∧ L.length = 4 ∨ t.mask = 31 ∧ L.length = 18 := by
      rcases R.tab.mok with e | e | e <;> omega
    have go : ∀ M, SetTable.sizeAbove (SetTable.grown (L.length + 1)) - 1 = M → MaskOk M → SetTable.sizeAbove (SetTable.grown (L.length + 1)) ≤ 128 → (L.length + 1) * 5 < M * 3 →
        wpAny (model P w) A (setRelay a (SetTable.grown (L.length + 1))) (fun _ s' => wpAny (model P w) A (pure true) Q E s') E { s with heap := h1 } := fun M g1 g2 g3 g4 => by
      have hsz1 := T2.sz
      rw [List.length_map, hlen] at hsz1
      refine relay_key sk (s := { s with heap := h1 }) ho1 ⟨hex.1, hex.2.1, hex.2.2⟩ rfl hin (by rw [hsz1, hes]) T2.dm (by rw [hes, m2]; omega) nd1 key1 g1 g2 g3 (by rw [hlen]; exact g4) fun h2 L2 es2 ep2 t3 sb2 R2 pm2 => ?_
      exact wpAny_pure (hQ true h2 L2 es2 ep2 t3 (sb.trans sb2) R2 (fun z => absurd z hm) fun _ => pm2.trans pm)
    refine wpAny_bind ?_
    rcases hm3 with ⟨_, e2⟩ | ⟨_, e2⟩
    · exact go 31 (by rw [e2, size_20]) (.inr (.inl rfl)) (by rw [e2, size_20]; decide) (by omega)
    · exact go 127 (by rw [e2, size_76]) (.inr (.inr rfl)) (by rw [e2, size_76]; decide) (by omega)
  · rw [if_neg (by rw [full]; simp [hf])]
    exact wpAny_pure (hQ true h1 L1 es1 (ep + 1) t2 sb ⟨⟨_, ho1, ⟨hex.1, hex.2.1, hex.2.2⟩, rfl⟩, hin, T2, nd1, key1, by rw [hlen, m2]; omega⟩ (fun z => absurd z hm) fun _ => pm)
end
end Mi
end

section
set_option Elab.async false
set_option linter.all false
set_option maxRecDepth 100000
set_option maxHeartbeats 2000000
namespace Mi
open PySem PySem.Spec PyProof.Rows L2
/-! ### set(xs), xs a list -/
/-- what has come from the first i of ks -/
structure Came {κ : Type} (ks : List (Addr × κ)) (i : Nat) (L : List (Addr × κ)) : Prop where
  sub : ∀ p ∈ L, p ∈ ks.take i
  all : ∀ p ∈ ks.take i, p.2 ∈ L.map (·.2)
  len : L.length ≤ i
section
variable {P : Program} {w : World} {A : Around} {E : Value → Shared → Prop} {s : Shared} {κ : Type} [DecidableEq κ] {kd : HeapKind P w κ} {a : Addr} {L : List (Addr × κ)} {es : Array (Int × Value)} {ep : Nat} {t : SetTable}
theorem Came.same {ks L : List (Addr × κ)} {i : Nat} {x : Addr × κ} (g : Came ks i L) (h : ks[i]? = some x) (hm : x.2 ∈ L.map (·.2)) : Came ks (i + 1) L := by
  have e : ks.take (i + 1) = ks.take i ++ [x] := by rw [List.take_add_one, h]; rfl
  refine ⟨fun p hp => by rw [e]; exact List.mem_append_left _ (g.sub p hp), fun p hp => ?_, Nat.le_succ_of_le g.len⟩
  rw [e] at hp
  rcases List.mem_append.mp hp with z | z
  · exact g.all p z
  · rw [List.mem_singleton.mp z]; exact hm
theorem Came.more {ks L L' : List (Addr × κ)} {i : Nat} {x : Addr × κ} (g : Came ks i L) (h : ks[i]? = some x) (pm : L'.Perm (x :: L)) : Came ks (i + 1) L' := by
  have e : ks.take (i + 1) = ks.take i ++ [x] := by rw [List.take_add_one, h]; rfl
  refine ⟨fun p hp => ?_, fun p hp => ?_, by rw [pm.length_eq, List.length_cons]; exact Nat.succ_le_succ g.len⟩
  · rw [e]
    rcases List.mem_cons.mp (pm.mem_iff.mp hp) with z | z
    · rw [z]; exact List.mem_append_right _ (List.mem_singleton.mpr rfl)
    · exact List.mem_append_left _ (g.sub p z)
  · rw [(pm.map (·.2)).mem_iff, List.map_cons]
    rw [e] at hp
    rcases List.mem_append.mp hp with z | z
    · exact List.mem_cons_of_mem _ (g.all p z)
    · rw [List.mem_singleton.mp z]; exact List.mem_cons_self
theorem SetQ.fresh {h : Heap} {a : Addr} {b : Bool} (ho : h.get? a = some { cls := .type "set", dict := none, data := .set #[] 0 (.fresh 0 0 b) }) : SetQ kd h a [] #[] 0 (.fresh 0 0 b) where
  ob := ⟨_, ho, ⟨rfl, rfl, rfl⟩, rfl⟩
  rows := rfl
  tab := ⟨List.Pairwise.nil, rfl, rfl, .inl rfl, fun x hx => (by cases hx), fun i h j hi => (by simp at hi)⟩
  nd := List.nodup_nil
  key := fun p hp => (by cases hp)
  room := by
    show 0 * 5 < 7 * 3
    decide
theorem SetQ.keep {h h' : Heap} (R : SetQ kd h a L es ep t) (ha : ∀ o, h.get? a = some o → h'.get? a = some o) (ht : ∀ p ∈ L, kd.is h' p.2 p.1) : SetQ kd h' a L es ep t :=
  let ⟨o, ho, r⟩ := R.ob; ⟨⟨o, ha o ho, r⟩, R.rows, R.tab, R.nd, ht, R.room⟩
/-- set.update's loop over a walk of the keys -/
theorem upd_loop (sk : SetKd kd) {I : Addr} {fp wr : List Addr} {G : Array GenState → Array GenState → Prop} {n : Nat} {Pv : Nat → Value → Prop} {St : Nat → Shared → Prop} {R : Result → Shared → Prop}
    (W : WalksS P w A.in1 I fp wr G n Pv St) {S : Addr} (hSf : S ∉ fp) {ks : List (Addr × κ)} (hn : n = ks.length) (hfew : ks.length < 64) (hval : ∀ i v, Pv i v → ∃ p, ks[i]? = some p ∧ v = .ref p.1)
    {h0 : Heap} (hk : ∀ p ∈ ks, kd.is h0 p.2 p.1) (hS0 : h0.get? S = none) (hw0 : ∀ b ∈ wr, h0.get? b = none) (hu : A.in1.units < cLine)
    (hR : ∀ s' L es ep t, s'.gens = s'.gens → Moved (S :: wr) G s s' → SetQ kd s'.heap S L es ep t → Came ks n L → (∀ b o, h0.get? b = some o → s'.heap.get? b = some o) → R (.ok (.ret .none)) s') :
    ∀ (k i : Nat) (s1 : Shared), n - i = k → i ≤ n → St i s1 → (∀ b o, h0.get? b = some o → s1.heap.get? b = some o) → (∃ L es ep t, SetQ kd s1.heap S L es ep t ∧ Came ks i L) → (∀ s2, Moved (S :: wr) G s1 s2 → Moved (S :: wr) G s s2) →
      codeAny (model P w) A (.builtin "set.update.loop" ⟨[.ref S, .ref I], []⟩) R s1 := by
  have hSw : S ∉ wr := fun h => hSf (W.sub _ h)
  have hsub : ∀ b ∈ wr, b ∈ S :: wr := fun b hb => List.mem_cons_of_mem _ hb
  have keepM : ∀ {s s' : Shared}, Moved wr G s s' → (∀ b o, h0.get? b = some o → s.heap.get? b = some o) → ∀ b o, h0.get? b = some o → s'.heap.get? b = some o := fun hm hkp b o e =>
    hm.heap b o (fun hb => by rw [hw0 b hb] at e; cases e) (hkp b o e)
  have isk : ∀ {h : Heap} {p : Addr × κ}, p ∈ ks → (∀ b o, h0.get? b = some o → h.get? b = some o) → kd.is h p.2 p.1 := fun hp hkp => sk.still (hk _ hp) fun c o e _ => hkp c o e
  intro k
  induction k with
  | zero =>
    intro i s1 hk' hi hst hkp ⟨L, es, ep, t, hS, g⟩ tr
    have hin : i = n := by omega
    subst hin
    refine codeAny_builtin F.entry_set_update_loop ?_
    rw [Around.under_plainId F.plain_set_update_loop _]
    show wpAny _ A.in1 (pyNext (.ref I) >>= _) _ _ s1
    refine wpAny_bind (W.done s1 _ _ hst fun s' hm => ?_)
    have hkp' := keepM hm hkp
    exact wpAny_pure (hR s' L es ep t rfl (tr _ (hm.mono hsub)) (hS.keep (fun o e => hm.heap S o hSw e) fun p hp => isk (List.mem_of_mem_take (g.sub p hp)) hkp') g hkp')
  | succ k ih =>
    intro i s1 hk' hi hst hkp ⟨L, es, ep, t, hS, g⟩ tr
    have hlt : i < n := by omega
    refine codeAny_builtin F.entry_set_update_loop ?_
    rw [Around.under_plainId F.plain_set_update_loop _]
    show wpAny _ A.in1 (pyNext (.ref I) >>= _) _ _ s1
    refine wpAny_bind (W.item i s1 _ _ hlt hst fun v s' hP hst' hm => ?_)
    obtain ⟨p, hp, rfl⟩ := hval i v hP
    have hkp' := keepM hm hkp
    have hS' : SetQ kd s'.heap S L es ep t := hS.keep (fun o e => hm.heap S o hSw e) fun q hq => isk (List.mem_of_mem_take (g.sub q hq)) hkp'
    have hx : kd.is s'.heap p.2 p.1 := isk (List.mem_of_getElem? hp) hkp'
    show wpAny _ A.in1 (holding [Value.ref p.1] (setAdd S (.ref p.1)) >>= _) _ _ s'
    refine wpAny_bind (wpAny_holding ?_)
    unfold setAdd
    refine wpAny_holding (wpAny_bind (kd.pyHash (sk.room _ hu) hx ?_))
    refine add_key (s := { s' with toks := s'.toks + kd.draws p.2 }) sk hS' hx hu (by have := g.len; omega) fun b h' L' es' ep' t' hsb hS2 c1 c2 => ?_
    have g' : Came ks (i + 1) L' := by
      by_cases c : p.2 ∈ L.map (·.2)
      · rw [c1 c]; exact g.same hp c
      · exact g.more hp (c2 c)
    have hkp2 : ∀ b o, h0.get? b = some o → h'.get? b = some o := fun b o e => (hsb.2 b (fun z => by rw [z, hS0] at e; cases e)).trans (hkp' b o e)
    refine wpAny_pure ⟨plainId_quiet F.plain_set_update_loop _, ih (i + 1) _ (by omega) hlt (W.frame _ s' _ _ hst' (Nat.le_add_right _ _) fun b hb o e => ?_) hkp2 ⟨L', es', ep', t', hS2, g'⟩ fun s2 hm2 => tr _ ?_⟩
    · rw [hsb.2 b (fun h : b = S => hSf (by rw [← h]; exact hb))]; exact e
    · refine Moved.trans W.gtrans ((hm.mono hsub).then_heap (Nat.le_add_right _ _) fun b o hb e => ?_) hm2
      rw [hsb.2 b (fun h : b = S => hb (by rw [h]; exact List.mem_cons_self))]; exact e
end
end Mi
end

section
set_option Elab.async false
set_option linter.all false
set_option maxRecDepth 100000
set_option maxHeartbeats 3200000
namespace Mi
open PySem PySem.Spec PyProof.Rows L2
section
variable {P : Program} {w : World} {A : Around} {E : Value → Shared → Prop} {s : Shared} {κ : Type} [DecidableEq κ] {kd : HeapKind P w κ}
/-- set(xs), xs a list of keys -/
theorem call_setQ (sk : SetKd kd) {l : Addr} {items : Array Value} (ks : List (Addr × κ)) {Q : Value → Shared → Prop} (hh : A.handled = none) (hl : s.heap.IsList l items) (hit : items.toList = ks.map fun p => Value.ref p.1)
    (hk : ∀ p ∈ ks, kd.is s.heap p.2 p.1) (hfew : ks.length < 64) (hu : A.units + 3 < cLine)
    (h : ∀ (h' : Heap) (tk : Nat) L es ep t, SetQ kd h' s.heap.objs.size L es ep t → Came ks ks.length L → (∀ b o, s.heap.get? b = some o → h'.get? b = some o) → Q (.ref s.heap.objs.size) { s with heap := h', toks := tk }) :
    wpAny (model P w) A (call (.type "set") [.ref l]) Q E s := by
  have hisz : items.size = ks.length := by
    have q := congrArg List.length hit
    rw [Array.length_toList, List.length_map] at q
    exact q
  obtain ⟨c, tl, hmro⟩ := F.called_set.mro
  have hmade := F.called_set.made
  have hsub := F.called_set.sub
  refine wpAny_call (codeAny_of_tree ?_)
  show wpAny _ _ (callAny (.type "set") _) _ _ _
  refine wpAny_pure ⟨Code.quiet_builtin _ (by decide +kernel), codeAny_builtin F.entry_type_call ?_⟩
  rw [Around.under_plain (weight_type_call_type "set" [.ref l] []) rfl]
  have h1 := F.called_set.notType
  have h2 := F.called_set.canCreate
  have hct := F.typeCall_set_1 (.ref l)
  repeat (any_goals (first | assumption | wp_step))
  generalize hF : (SetTable.fresh 0 0 (!w.params.followText "set-order")) = fr0
  have new0 : ∀ hp : Heap, (hp.push { cls := .type "set", dict := none, data := .set #[] 0 fr0 }).get? hp.objs.size = some { cls := .type "set", dict := none, data := .set #[] 0 fr0 } := fun hp => Heap.get?_push_size _ rfl
  refine codeAny_mono (code_set_led1 (.ref l) (E := E) (Q₁ := fun obj s₁ => obj = .ref s.heap.objs.size ∧ s₁ = { s with heap := s.heap.push { cls := .type "set", dict := none, data := .set #[] 0 fr0 } }) (by rw [hF]; exact ⟨rfl, rfl⟩)) fun r s₁ hr => ?_
  cases r with
  | error e => exact hr
  | ok fl =>
    cases fl with
    | ret obj =>
      obtain ⟨rfl, rfl⟩ := hr
      have hT : Shared.TypeIs { s with heap := s.heap.push { cls := .type "set", dict := none, data := .set #[] 0 fr0 } } (.ref s.heap.objs.size) "set" := ⟨_, new0 _, rfl⟩
      have hli := F.called_set.init.lookup
      have hbi := F.called_set.init.bind (.ref s.heap.objs.size)
      repeat (any_goals (first | assumption | wp_step))
      refine codeAny_mono (codeAny_call_builtin (R := wants (fun r s₂ => r = .none ∧ ∃ h' tk L es ep t, s₂ = { s with heap := h', toks := tk } ∧ SetQ kd h' s.heap.objs.size L es ep t ∧ Came ks ks.length L ∧ (∀ b o, s.heap.get? b = some o → h'.get? b = some o)) E) F.called_set.init.plain F.entry_set_init (check_set_init_1 hT ?_)) fun r₂ s₂ hr₂ => ?_
      · subst hF
        obtain ⟨ol, hol, hcl, nl, hdl⟩ := hl
        obtain ⟨ocls, odict, odata, oslots⟩ := ol
        simp only at hcl hdl
        subst hcl; subst hdl
        have hl1 : (s.heap.push { cls := .type "set", dict := none, data := .set #[] 0 (.fresh 0 0 (!w.params.followText "set-order")) }).IsList l items := ⟨_, Heap.get?_push_of_some _ hol, rfl, nl, rfl⟩
        have hol' : (s.heap.push { cls := .type "set", dict := none, data := .set #[] 0 (.fresh 0 0 (!w.params.followText "set-order")) }).get? l = some { cls := .type "list", dict := odict, data := .seq items nl, slots := oslots } := Heap.get?_push_of_some _ hol
        have hsls := F.sub_list_set
        have hslf := F.sub_list_frozenset
        have hne : (Value.type "list" == Value.type "dict") = false := by decide
        unfold Builtin.«set.__init__» noKeywords Builtin.Frozenset.updateFrom
        generalize hPI : pyIter = PI
        wp_walk
        subst hPI
        refine wpAny_pyIter_list hl1 ?_
        refine wpAny_bind (wpAny_runValue ?_)
        have ls : l < s.heap.objs.size := Heap.lt_size hol
        have hh3 : A.in1.in1.in1.handled = none := by simp [hh]
        have far : ∀ b, s.heap.objs.size ≤ b → s.heap.get? b = none := fun b hb => by
          cases q : s.heap.get? b with
          | none => rfl
          | some o => exact absurd (Nat.lt_of_lt_of_le (Heap.lt_size q) hb) (Nat.lt_irrefl _)
        have hneI : l ≠ (s.heap.push { cls := .type "set", dict := none, data := .set #[] 0 (.fresh 0 0 (!w.params.followText "set-order")) }).objs.size := by
          rw [Heap.size_push]; exact Nat.ne_of_lt (Nat.lt_succ_of_lt ls)
        have hval : ∀ (i : Nat) (v : Value), items[i]? = some v → ∃ p, ks[i]? = some p ∧ v = .ref p.1 := fun i v hv => by
          have q : items.toList[i]? = some v := by rw [Array.getElem?_toList]; exact hv
          rw [hit, List.getElem?_map] at q
          cases hq : ks[i]? with
          | none => rw [hq] at q; cases q
          | some p => rw [hq] at q; exact ⟨p, rfl, (Option.some.inj q).symm⟩
        have hget : ((s.heap.push { cls := .type "set", dict := none, data := .set #[] 0 (.fresh 0 0 (!w.params.followText "set-order")) }).push { cls := .type "list_iterator", data := .fields #[.ref l, .int 0 0] }).get? s.heap.objs.size = some { cls := .type "set", dict := none, data := .set #[] 0 (.fresh 0 0 (!w.params.followText "set-order")) } := Heap.get?_push_of_some _ (new0 _)
        refine upd_loop (s := { s with heap := (s.heap.push { cls := .type "set", dict := none, data := .set #[] 0 (.fresh 0 0 (!w.params.followText "set-order")) }).push { cls := .type "list_iterator", data := .fields #[.ref l, .int 0 0] } }) sk ((Walks.list hh3 _ l hneI items).toS) (S := s.heap.objs.size) ?hf (ks := ks) hisz hfew hval (h0 := s.heap) hk (far _ (Nat.le_refl _)) ?hw hu ?hR (items.size - 0) 0 _ (by omega) (Nat.zero_le _)
          ⟨⟨_, Heap.get?_push_size _ rfl, rfl, rfl⟩, hl1.push _⟩ (fun b o e => Heap.get?_push_of_some _ (Heap.get?_push_of_some _ e)) ?hS fun _ z => z
        case hf =>
          rw [Heap.size_push]
          simp only [List.mem_cons, List.not_mem_nil, or_false, not_or]
          exact ⟨Nat.ne_of_lt (Nat.lt_succ_self _), Nat.ne_of_gt ls⟩
        case hw =>
          intro b hb
          refine far b ?_
          rw [List.mem_singleton.mp hb, Heap.size_push]
          exact Nat.le_succ _
        case hS =>
          exact ⟨[], #[], 0, _, SetQ.fresh hget, ⟨fun p hp => (by cases hp), fun p hp => (by simp at hp), Nat.le_refl _⟩⟩
        case hR =>
          intro s' L es ep t _ hm hS' g' hkp
          obtain ⟨h', g2, d', tk', os'⟩ := s'
          have eg : g2 = s.gens := hm.gens
          have ed : d' = s.drawn := hm.drawn
          have eo : os' = s.os := hm.os
          subst eg; subst ed; subst eo
          rw [hisz] at g'
          refine wpAny_pure ?_
          exact wpAny_pure ⟨rfl, h', tk', L, es, ep, t, rfl, hS', g', hkp⟩
      · cases r₂ with
        | error e => exact hr₂
        | ok fl₂ =>
          cases fl₂ with
          | ret r =>
            obtain ⟨rfl, h', tk, L, es, ep, t, rfl, hS', g', hk'⟩ := hr₂
            repeat (any_goals (first | assumption | wp_step))
            exact h _ _ _ _ _ _ hS' g' hk'
          | _ => exact hr₂.elim
    | _ => exact hr.elim
end
end Mi
end

section
set_option Elab.async false
set_option linter.all false
set_option maxRecDepth 100000
set_option maxHeartbeats 2000000
namespace Mi
open PySem PySem.Spec PyProof.Rows L2

/-! ### len(set(xs)), xs a list of tuples of strs -/
def strsM : List MV → Option (List Str)
  | [] => some []
  | .str x :: r => (strsM r).map (x :: ·)
  | _ => none
def stepsM : List MV → Option (List (List Str))
  | [] => some []
  | .tup xs :: r => (match strsM xs, stepsM r with
    | some k, some ks => some (k :: ks)
    | _, _ => none)
  | _ => none
/-- the last of each kind -/
def onceL {α : Type} [DecidableEq α] : List α → List α
  | [] => []
  | a :: r => if a ∈ r then onceL r else a :: onceL r
theorem onceL_mem {α : Type} [DecidableEq α] {x : α} : ∀ {l : List α}, x ∈ onceL l ↔ x ∈ l
  | [] => Iff.rfl
  | a :: r => by
    unfold onceL
    by_cases h : a ∈ r
    · rw [if_pos h, onceL_mem, List.mem_cons]
      constructor
      · exact .inr
      · rintro (rfl | z)
        · exact h
        · exact z
    · rw [if_neg h, List.mem_cons, List.mem_cons, onceL_mem]
theorem onceL_nodup {α : Type} [DecidableEq α] : ∀ {l : List α}, (onceL l).Nodup
  | [] => List.nodup_nil
  | a :: r => by
    unfold onceL
    by_cases h : a ∈ r
    · rw [if_pos h]; exact onceL_nodup
    · rw [if_neg h]; exact List.nodup_cons.mpr ⟨fun z => h (onceL_mem.mp z), onceL_nodup⟩
theorem strsM_rv {K : PySem.W.Frag} {cn : Cn} {r : Rho} {H : Hp} : ∀ {ms : List MV} {vs : List V} {ks : List Str}, RVs K cn r H ms vs → strsM ms = some ks → vs = ks.map V.str
  | _, _, _, .nil, e => by cases e; rfl
  | _, _, _, .cons (m := m) h t, e => by
    cases h with
    | str x =>
      obtain ⟨ks', e1, rfl⟩ := Option.map_eq_some_iff.mp (show (strsM _).map (x :: ·) = _ from e)
      rw [strsM_rv t e1]; rfl
    | _ => cases e
theorem stepsM_rv {K : PySem.W.Frag} {cn : Cn} {r : Rho} {H : Hp} : ∀ {ms : List MV} {vs : List V} {ks : List (List Str)}, RVs K cn r H ms vs → stepsM ms = some ks →
    ∃ ps : List (Addr × List Str), vs = ps.map (fun p => V.ref p.1) ∧ ps.map (·.2) = ks ∧ ∀ p ∈ ps, SqT K H p.1 (p.2.map V.str)
  | _, _, _, .nil, e => by cases e; exact ⟨[], rfl, rfl, fun p hp => by cases hp⟩
  | _, _, _, .cons (m := m) h t, e => by
    cases h with
    | tup hq hs =>
      rename_i a vs ms
      unfold stepsM at e
      cases q1 : strsM ms with
      | none => rw [q1] at e; cases e
      | some k =>
        rename_i rest _
        cases q2 : stepsM rest with
        | none => rw [q1, q2] at e; cases e
        | some ks =>
          rw [q1, q2] at e
          cases e
          obtain ⟨ps, e1, e2, e3⟩ := stepsM_rv t q2
          refine ⟨(a, k) :: ps, by rw [e1]; rfl, by rw [← e2]; rfl, fun p hp => ?_⟩
          rcases List.mem_cons.mp hp with rfl | hp
          · rw [strsM_rv hs q1] at hq; exact hq
          · exact e3 p hp
    | _ => cases e
theorem vals_strs {P : Program} {w : World} : ∀ {ks : List Str} {us : List Value}, Vals (ks.map V.str) us → ItemsAre (PySem.strKind P w) ks us
  | [], _, .nil => .nil
  | k :: ks, _, .cons r t => by
    obtain ⟨tk, rfl⟩ := r
    exact .cons (strKind_is P w k tk) (vals_strs t)
theorem vals_refs : ∀ {ps : List (Addr × List Str)} {us : List Value}, Vals (ps.map fun p => V.ref p.1) us → us = ps.map fun p => Value.ref p.1
  | [], _, .nil => rfl
  | p :: ps, _, .cons r t => by
    cases r
    rw [vals_refs t]; rfl
def eLenSet (f : EM) : EM := fun e => do
  let a ← f e
  fun m => match (lstM m a).bind stepsM with
    | some ks => if ks.length < 64 then .ok (.int (onceL ks).length) m else .bad
    | none => .bad
section
variable {X : Cx} {cn : Cn} {W : WX} {a : Expr} {f : EM} {p p2 q pos : Pos}
theorem e_lenset (hc : X.calm = true) (hu : X.A.units + 64 < cLine) (ha : JE X cn W a f) (hm : X.mg "len" = none) (hm2 : X.mg "set" = none) (hg : Gl X "len" := by rfl) (hg2 : Gl X "set" := by rfl)
    (na : starEach [a] X.env = (false, eval a X.env) :: starEach [] X.env := by rfl) : JE X cn W (.Call (.Name "len" p) [.Call (.Name "set" p2) [a] [] q] [] pos) (eLenSet f) := by
  refine ⟨fun pins s σ H Q I w => ?_⟩
  obtain ⟨r, m, e, hs, hr, w⟩ := w
  have w0 : LE X.K cn W f σ H fun x H1 => ∃ (l : Addr) (ps : List (Addr × List Str)), x = .ref l ∧ SqL X.K H1 l (ps.map fun p => V.ref p.1) ∧ (∀ p ∈ ps, SqT X.K H1 p.1 (p.2.map V.str)) ∧ ps.length < 64 ∧ Q (.int (onceL (ps.map (·.2))).length) H1 := by
    refine ⟨r, m, e, hs, hr, w.bind.mono (fun x m1 w1 r1 H1 v x1 hr1 hv => ?_) fun _ _ p => p⟩
    have w1 : Wp ((match (lstM m1 x).bind stepsM with
      | some ks => if ks.length < 64 then .ok (.int (onceL ks).length) m1 else .bad
      | none => .bad : Res MV)) (PostE X.K cn r H Q) (PostX X.K cn W σ r H) := w1
    cases q1 : lstM m1 x with
    | none => rw [q1] at w1; exact w1.elim
    | some xs =>
      rw [q1] at w1
      have w1 : Wp ((match stepsM xs with
        | some ks => if ks.length < 64 then .ok (.int (onceL ks).length) m1 else .bad
        | none => .bad : Res MV)) (PostE X.K cn r H Q) (PostX X.K cn W σ r H) := w1
      cases q2 : stepsM xs with
      | none => rw [q2] at w1; exact w1.elim
      | some ks =>
        rw [q2] at w1
        simp only at w1
        by_cases hz : ks.length < 64
        · rw [if_pos hz] at w1
          obtain ⟨l, vs, rfl, hrd, hrv⟩ := lst_at hr1 hv q1
          obtain ⟨ps, e1, e2, e3⟩ := stepsM_rv hrv q2
          refine ⟨l, ps, rfl, ?_, e3, by rw [← e2, List.length_map] at hz; exact hz, ?_⟩
          · rw [← e1]
            rcases hrd with z | z
            · exact .inl (.inl z)
            · exact .inl (.inr z)
          · rw [e2]
            exact w1 r1 H1 _ x1 hr1 (.int _)
        · rw [if_neg hz] at w1; exact w1.elim
  refine Call_ (ld_blt I hg hm PySem.boot_len ?_)
  refine PyProof.Rows.callWith_builtin1 (PyProof.Rows.args_cons ?_ rfl) rfl rfl
  refine Call_ (ld_blt I hg2 hm2 PyProof.Rows.boot_set ?_)
  refine PyProof.Rows.callWith_type1 (PyProof.Rows.args_cons (thn (ha.run pins s σ H _ I w0) fun v s1 ⟨x, H1, I1, r1, q1⟩ => PyProof.Rows.args_nil ?_) na) na rfl
  obtain ⟨l, ps, rfl, hq, hk, hl, q1⟩ := q1
  cases r1
  obtain ⟨its, rv, pl, hz⟩ := I1.list hq
  have key : ∀ p ∈ ps, (tupleKind (PySem.strKind X.prog X.w)).is s1.heap p.2 p.1 := fun p hp => by
    obtain ⟨ts, r, ⟨o, ho, hcl, n, hd⟩, _⟩ := I1.tuple (hk p hp)
    exact ⟨o, ts.toArray, n, ho, hcl, hd, by simpa using vals_strs r⟩
  refine call_setQ (P := X.prog) (w := X.w) (kd := tupleKind (PySem.strKind X.prog X.w)) setKd_strs ps (I1.ok.hd hc) pl.isList (by simpa using vals_refs rv) key hl (by omega) fun h' tk L es ep t R g k => ?_
  refine PyProof.Rows.args_nil ?_
  obtain ⟨o, ho, hex, hd⟩ := R.ob
  have I2 : Inv X pins σ H1 { s1 with heap := h', toks := tk } := I1.kept fun b o e => k b o e
  have hlen : es.size = (onceL (ps.map (·.2))).length := by
    rw [R.size, ← List.length_map (f := (·.2)) (as := L)]
    refine List.Perm.length_eq ((List.perm_ext_iff_of_nodup R.nd onceL_nodup).mpr fun x => ?_)
    rw [onceL_mem]
    constructor
    · intro hx
      obtain ⟨p, hp, rfl⟩ := List.mem_map.mp hx
      exact List.mem_map.mpr ⟨p, List.mem_of_mem_take (g.sub p hp), rfl⟩
    · intro hx
      obtain ⟨p, hp, rfl⟩ := List.mem_map.mp hx
      exact g.all p (by rw [List.take_length]; exact hp)
  have hb : (es.size : Int) < 2 ^ 63 := by
    have : es.size ≤ ps.length := by rw [R.size]; exact g.len
    omega
  exact call_len_set ho hex hd R.fits hb ⟨.int (onceL (ps.map (·.2))).length, H1, I2.tok _, ⟨_, by rw [hlen]⟩, q1⟩
end

/-! ### a list is held for good -/
def eLock (f : EM) : EM := fun e => do
  let a ← f e
  fun m => match a with
    | .ref n => (match m[n]? with
      | some (.lst xs) => .ok (.con xs) (m.set n .ded)
      | _ => .bad)
    | _ => .bad
theorem HR.killL {K : PySem.W.Frag} {cn : Cn} {r : Rho} {m : MH} {H : Hp} (h : HR K cn r m H) {i : Nat} {a d : Addr} {vs : List V} {od : Obj} (e : r[i]? = some (a, d)) (ho : H a = some (.lst vs)) :
    HR K cn r (m.set i .ded) (upd H a (.frz od (.lst vs))) ∧ Ext r H r (upd H a (.frz od (.lst vs))) := by
  have hx : Ext r H r (upd H a (.frz od (.lst vs))) := ext_write e ho (fun _ z => by cases z) fun _ _ z => by cases z
  exact ⟨h.write e hx (.ded upd_same), hx⟩
section
variable {X : Cx} {cn : Cn} {W : WX} {a : Expr} {f : EM}
theorem e_lock (ha : JE X cn W a f) : JE X cn W a (eLock f) := by
  refine pe_imp (pe_lk ha) fun s H Q ⟨r, m, e, hs, hr, w⟩ => ?_
  refine ⟨r, m, e, hs, hr, w.bind.mono (fun x m1 w1 r1 H1 v x1 hr1 hv => ?_) fun _ _ p => p⟩
  cases hv with
  | ref h =>
    rename_i n p d
    obtain ⟨o, h1, h2⟩ := hr1.get h
    have w2 : Wp ((match m1[n]? with
      | some (.lst xs) => .ok (.con xs) (m1.set n .ded)
      | _ => .bad : Res MV)) (PostE X.K cn r H Q) (PostX X.K cn W s r H) := w1
    rw [h1] at w2
    cases h2 with
    | lst h3 t =>
      refine ⟨_, _, rfl, h3, True.intro, fun od => ?_⟩
      obtain ⟨g1, g2⟩ := hr1.killL (od := od) h h3
      exact w2 r1 _ _ (x1.trans g2) g1 (.con ⟨od, upd_same⟩ (t.ext g2))
    | dct h3 t => exact w2.elim
    | ins h3 t => exact w2.elim
    | ded h3 => exact w2.elim
  | _ => exact w1.elim
/-! ### constants of the module -/
theorem e_gS {x z : Str} {pos : Pos} (h : ∃ t, X.mg x = some (.str z t)) (hg : Gl X x := by rfl) (hd : (x == ("__debug__" : Str)) = false := by decide) : JE X cn W (.Name x pos) (eC (.str z)) := by
  obtain ⟨t, h⟩ := h
  exact e_glob h (v := .str z) ⟨t, rfl⟩ (fun _ _ => .str z) hg hd
theorem e_gI {x : Str} {i : Int} {pos : Pos} (h : ∃ t, X.mg x = some (.int i t)) (hg : Gl X x := by rfl) (hd : (x == ("__debug__" : Str)) = false := by decide) : JE X cn W (.Name x pos) (eC (.int i)) := by
  obtain ⟨t, h⟩ := h
  exact e_glob h (v := .int i) ⟨t, rfl⟩ (fun _ _ => .int i) hg hd
theorem rvs_strs {K : PySem.W.Frag} {cn : Cn} {r : Rho} {H : Hp} : ∀ xs : List Str, RVs K cn r H (xs.map MV.str) (xs.map V.str)
  | [] => .nil
  | x :: xs => .cons (.str x) (rvs_strs xs)
theorem e_gT {x : Str} {t : Addr} {xs : List Str} {pos : Pos} (h : X.mg x = some (.ref t)) (hq : ∀ H, SqT X.K H t (xs.map V.str)) (hg : Gl X x := by rfl) (hd : (x == ("__debug__" : Str)) = false := by decide) : JE X cn W (.Name x pos) (eC (.tup (xs.map MV.str))) :=
  e_glob h (v := .ref t) rfl (fun r H => .tup (hq H) (rvs_strs xs)) hg hd
theorem pe_tyn {T : String} {x : Str} {pos : Pos} (hm : X.mg x = none) (hv : bootBuiltins x = some (.type T)) (hg : Gl X x := by rfl) (hn : x ≠ "__name__" := by decide) (hd : (x == ("__debug__" : Str)) = false := by decide) : PE X (.Name x pos) (tC (.ty T)) := pe_bltn hg hm hv rfl hn hd
theorem pe_own {C : Addr} {x : Str} {pos : Pos} (hm : X.mg x = some (.ref C)) (hg : Gl X x := by rfl) (hd : (x == ("__debug__" : Str)) = false := by decide) : PE X (.Name x pos) (tC (.ref C)) := pe_glob hg hm rfl hd
end
theorem RoomG.u64 {k : Nat} {A : Around} (r : RoomG k A) : A.units + 64 < cLine := r.room.units
theorem RoomG.u65 {k : Nat} {A : Around} (r : RoomG k A) : A.units + 65 < cLine := by have := r.room.un; omega
theorem RoomG.u66 {k : Nat} {A : Around} (r : RoomG k A) : A.units + 66 < cLine := by have := r.room.un; omega
theorem RoomG.u1 {k : Nat} {A : Around} (r : RoomG k A) : A.units + 1 < cLine := by have := r.room.un; omega
theorem bt_sum : bootBuiltins "sum" = some (.builtin "sum") := by decide +kernel
theorem bt_all : bootBuiltins "all" = some (.builtin "all") := by decide +kernel
theorem bt_any : bootBuiltins "any" = some (.builtin "any") := by decide +kernel
theorem bt_repr : bootBuiltins "repr" = some (.builtin "repr") := by decide +kernel
theorem bt_max : bootBuiltins "max" = some (.builtin "max") := by decide +kernel
theorem bt_min : bootBuiltins "min" = some (.builtin "min") := by decide +kernel
theorem bt_len : bootBuiltins "len" = some (.builtin "len") := by decide +kernel
theorem bt_int : bootBuiltins "int" = some (.type "int") := by decide +kernel
theorem bt_str : bootBuiltins "str" = some (.type "str") := by decide +kernel
theorem bt_bool : bootBuiltins "bool" = some (.type "bool") := by decide +kernel
theorem bt_list : bootBuiltins "list" = some (.type "list") := by decide +kernel
theorem bt_tuple : bootBuiltins "tuple" = some (.type "tuple") := by decide +kernel
theorem bt_dict : bootBuiltins "dict" = some (.type "dict") := by decide +kernel

/-! ### keyword-only parameters with defaults -/
section
variable {P : Program} {w : World} {K : PySem.W.Frag} {x qual : Str} {params : Arguments} {body : List Stmt} {scope : Scope} {kws : List (Str × V)} {f : Addr} {fd : FuncData} {cn : Cn}
theorem bndM_K {ps ks : List Str} {n : Nat} {ms : List (Str × V)} {mm : List MV} (gv : List Value → List Value → List Value → List Value) (gV : List V → List V → List V → List V) (gM : List MV → List MV → List MV → List MV) (F : FunD K x qual params body scope [] kws f fd) (hk : kws ≠ []) (hms : ∀ q ∈ ms, q ∈ kws)
    (hmm : ∀ r H, RVs K cn r H mm (ms.map (·.2)))
    (hr1 : ∀ {vs mz zs : List V} {us mv ws : List Value}, Vals vs us → Vals mz mv → Vals zs ws → Vals (gV vs mz zs) (gv us mv ws)) (hr2 : ∀ {r H} {as mv bs : List MV} {vs mz zs : List V}, RVs K cn r H as vs → RVs K cn r H mv mz → RVs K cn r H bs zs → RVs K cn r H (gM as mv bs) (gV vs mz zs))
    (hl : ∀ {vs mz zs : List V}, vs.length = n → mz.length = ms.length → zs.length = ks.length → (gV vs mz zs).length = ps.length)
    (h : ∀ (D : Addr) (doc pm : Value) (an : Option Addr) (cdv ct : Value) (us mv ws : List Value), us.length = n → mv.length = ms.length → ws.length = ks.length →
      KwChain D ((ms.map (·.1)).zip mv) (bindArgs (PySem.W.fnOf x qual params body scope .none (.ref D) doc pm an cdv ct) ⟨us, ks.zip ws⟩) (ps.zip (gv us mv ws))) : BndM K cn fd ps n ks (fun as bs => gM as mm bs) := by
  obtain ⟨oc, od, dV, kV, doc, pm, an, cdv, ct, osl, rfl, lk, hcd, hD, hK⟩ := F.ex
  rcases hD with ⟨_, rfl⟩ | ⟨e, _⟩
  · rcases hK with e | ⟨D, rfl, hq⟩
    · exact absurd e hk
    · obtain ⟨mv, hlm, rk, hks⟩ := kwd_vals (ms := ms) fun q hm => hq q (hms q hm)
      refine ⟨fun us ws => gv us mv ws, fun s us ws KX h1 h2 => BindsTo.of_looks fun M => KwChain.looks KX hks (h D doc pm an cdv ct us mv ws h1 hlm h2), fun r H us ws vs zs as bs r1 r2 r3 r4 l1 l2 => ⟨gV vs (ms.map (·.2)) zs, hr1 r1 rk r2, hr2 r3 (hmm r H) r4, hl (by rw [← r3.length]; exact l1) (by rw [List.length_map]) (by rw [← r4.length]; exact l2)⟩⟩
  · exact absurd rfl e
end
theorem Vals.app {vs zs : List V} {us ws : List Value} (a : Vals vs us) (b : Vals zs ws) : Vals (vs ++ zs) (us ++ ws) := by
  induction a with
  | nil => exact b
  | cons r t ih => exact .cons r ih
theorem tb_nil {K : PySem.W.Frag} {cn : Cn} {c : Value} : ∀ k b, ([] : List (Str × Bool)).lookup k = some b → PySem.W.exmOne K (.ref (cn k)) c = some b := fun k b h => by cases h
theorem tb_cons {K : PySem.W.Frag} {cn : Cn} {c : Value} {x : Str} {q : Bool} {tb : List (Str × Bool)} (h : PySem.W.exmOne K (.ref (cn x)) c = some q) (t : ∀ k b, tb.lookup k = some b → PySem.W.exmOne K (.ref (cn k)) c = some b) : ∀ k b, ((x, q) :: tb).lookup k = some b → PySem.W.exmOne K (.ref (cn k)) c = some b := fun k b e => by
  rw [List.lookup_cons] at e
  cases z : (k == x) with
  | true => rw [z] at e; cases e; rw [eq_of_beq z]; exact h
  | false => rw [z] at e; exact t k b e
end Mi
end

section
set_option Elab.async false
set_option linter.all false
set_option maxRecDepth 100000
set_option maxHeartbeats 2000000
namespace Mi
open PySem PySem.Spec PyProof.Rows L2
open He (ga ma ba Fa DefD FnW fnW frG asD)

/-! ### the written part: what the module's names reach, its lists left out -/
def isLst : Obj → Bool
  | ⟨.type c, _, _, _⟩ => c == "list"
  | _ => false
def frM (g : Addr → Option Obj) (as : List Addr) : PySem.W.Frag := (frG g as).filter fun q => !isLst q.2
theorem mem_of_lookup {a : Addr} {o : Obj} : ∀ {l : List (Addr × Obj)}, l.lookup a = some o → (a, o) ∈ l
  | (b, u) :: r, h => by
    rw [List.lookup_cons] at h
    cases q : (a == b) with
    | true => rw [q] at h; cases h; rw [eq_of_beq q]; exact List.mem_cons_self
    | false => rw [q] at h; exact List.mem_cons_of_mem _ (mem_of_lookup h)
theorem frM_mem {g : Addr → Option Obj} {as : List Addr} {a : Addr} {o : Obj} (h : (frM g as).lookup a = some o) : g a = some o ∧ isLst o = false := by
  obtain ⟨h1, h2⟩ := List.mem_filter.mp (mem_of_lookup h)
  obtain ⟨b, _, e⟩ := List.mem_filterMap.mp h1
  obtain ⟨u, e1, e2⟩ := Option.map_eq_some_iff.mp e
  cases e2
  exact ⟨e1, by simpa using h2⟩
/-! ### facts of a text's own exceptions: C(p): super().__init__(..); self.f = p -/
structure ExD where
  x : Str
  qual : Str
  params : Arguments
  body : List Stmt
  scope : Scope
  f : Str
  p : Str
  ve : Bool
abbrev FnX : Type := Option (Str × Str × Arguments × FuncBody × Scope × Addr × List Str × Addr)
def fnX (K : PySem.W.Frag) (x : Str) : FnX := match K.lookup (ma K (ga K x) "__init__") with
  | some ⟨_, _, .func fd, _⟩ => some (fd.name, fd.qualname, fd.params, fd.body, fd.scope, fd.globals, fd.closure.map (·.1), fd.builtins)
  | _ => none
def ExD.val (d : ExD) : FnX := some ("__init__", d.qual, d.params, .stmts d.body, d.scope, mainGlobals, ["__class__"], builtinsNs)
def isNoneV : Value → Bool
  | .none => true
  | _ => false
def fileB (file : Str) : Option Value → Bool
  | some (.str z _) => file == z
  | _ => false
def cellB (C : Addr) : Option Obj → Bool
  | some ⟨_, _, .cell (some (.ref D)), _⟩ => decide (D = C)
  | _ => false
def initB (K : PySem.W.Frag) (C : Addr) (file qual : Str) (fd : FuncData) : Bool := isNoneV fd.defaults && (isNoneV fd.kwdefaults && (PySem.W.codeIn K fd.code qual && ((match fd.code with
  | .ref cda => (match K.lookup cda with
    | some ⟨_, _, .fields vs, _⟩ => fileB file vs[2]?
    | _ => false)
  | _ => false) && (match fd.closure with
  | [(_, cc)] => cellB C (K.lookup cc)
  | _ => false))))
def exBase (ve : Bool) : String × String × String × List Value := if ve then ("ValueError", "ValueError.__new__", "ValueError.__init__", [.type "ValueError", .type "Exception", .type "BaseException", .type "object"]) else ("Exception", "Exception.__new__", "Exception.__init__", [.type "Exception", .type "BaseException", .type "object"])
def ExD.ok (file : Str) (K : PySem.W.Frag) (d : ExD) : Bool :=
  (match K.lookup (ma K (ga K d.x) "__init__") with
    | some ⟨_, _, .func fd, _⟩ => initB K (ga K d.x) file d.qual fd
    | _ => false) &&
  (PySem.W.excInitIn K (ga K d.x) (exBase d.ve).2.2.2 (exBase d.ve).2.1 && (PySem.W.excOver K (ga K d.x) (exBase d.ve).2.2.2 && (He.eqO (PySem.W.ks_superIn K (ga K d.x) (ga K d.x) "__init__") (some (some (.builtin (exBase d.ve).2.2.1))) &&
  (decide (PySem.W.subIn K (.ref (ga K d.x)) (.type (exBase d.ve).1) = some true) && (He.eqO (PySem.W.findIn K (.ref (ga K d.x)) "__setattr__") (some (some (.builtin "object.__setattr__"))) &&
  (He.eqO (PySem.W.findIn K (.ref (ga K d.x)) "__init__") (some (some (.ref (ma K (ga K d.x) "__init__")))) && (PySem.W.isFn K (.ref (ma K (ga K d.x) "__init__")) && (He.eqO (PySem.W.findIn K (.ref (ga K d.x)) d.f) (some none) &&
  (PySem.W.hasDictIn K (ga K d.x) && (decide (PySem.W.mroIn K (ga K d.x) (.ref (ga K d.x)) = some true) && (PySem.W.keepIn K (.ref (ga K d.x)) && (decide (PySem.W.subIn K (.ref (ga K d.x)) (.type "BaseException") = some true) &&
  (decide (PySem.W.typeIn K (.ref (ga K d.x)) = some (.type "type")) && He.eqO (PySem.W.nsIn K cStatics "thirdparty.any") (some none))))))))))))))
/-- what the text says of such a class, by rfl -/
structure ExTxt (d : ExD) : Prop where
  tx : ∃ (msg : Str) (p1 p2 a1 a2 a3 a4 a5 a6 b1 b2 b3 b4 : Pos), d.params = xA d.p p1 p2 ∧ d.body = xB msg d.f d.p a1 a2 a3 a4 a5 a6 b1 b2 b3 b4 ∧ d.scope = xS d.p ∧ XNod d.qual msg d.f d.p p1 p2 a1 a2 a3 a4 a5 a6 b1 b2 b3 b4
  psf : (d.p == ("self" : Str)) = false
  psu : (("super" : Str) == d.p) = false
  pdb : (d.p == ("__debug__" : Str)) = false
  pcl : (("__class__" : Str) == d.p) = false
  bnd : ∀ (qual : Str) (p1 p2 : Pos) (body : List Stmt) (doc pm : Value) (an : Option Addr) (cdv ct : Value) (cc x : Addr) (v : Value), bindArgs (PySem.W.ksFn "__init__" qual (xA d.p p1 p2) body (xS d.p) .none .none doc pm an cdv ct cc) ⟨[.ref x, v], []⟩ = pure [(("self" : Str), .ref x), (d.p, v)]
theorem exBase_facts (ve : Bool) : PySem.W.KxsFacts (exBase ve).1 (exBase ve).2.2.1 ∧ ExcBaseFacts (exBase ve).1 (exBase ve).2.1 (exBase ve).2.2.1 (exBase ve).2.2.2 ∧ StoreFacts (exBase ve).1 (exBase ve).2.2.2 "object.__setattr__" "object" := by
  cases ve with
  | true => exact ⟨PySem.W.kxs_ValueError, PySem.F.excBase_ValueError, PySem.F.store_ValueError⟩
  | false => exact ⟨PySem.W.kxs_Exception, PySem.F.excBase_Exception, PySem.F.store_Exception⟩
theorem isNoneV_ok {v : Value} (h : isNoneV v = true) : v = .none := by cases v <;> first | rfl | cases h
theorem xtxt_of {P : Program} {K : PySem.W.Frag} {d : ExD} (e : fnX K d.x = d.val) (c : d.ok P.main.file K = true) (t : ExTxt d) : XTxt P K (ga K d.x) (ma K (ga K d.x) "__init__") d.f d.p := by
  obtain ⟨c1, c⟩ := ba c
  obtain ⟨c2, c⟩ := ba c
  obtain ⟨c3, c⟩ := ba c
  obtain ⟨c4, c⟩ := ba c
  obtain ⟨c5, c⟩ := ba c
  obtain ⟨c6, c⟩ := ba c
  obtain ⟨c7, c⟩ := ba c
  obtain ⟨c8, c⟩ := ba c
  obtain ⟨c9, c⟩ := ba c
  obtain ⟨c10, c⟩ := ba c
  obtain ⟨c11, c⟩ := ba c
  obtain ⟨c12, c⟩ := ba c
  obtain ⟨c13, c⟩ := ba c
  obtain ⟨c14, c15⟩ := ba c
  obtain ⟨f1, f2, f3⟩ := exBase_facts d.ve
  obtain ⟨msg, p1, p2, a1, a2, a3, a4, a5, a6, b1, b2, b3, b4, t1, t2, t3, t4⟩ := t.tx
  refine ⟨⟨_, _, _, _, f1, f2, f3, c2, c3, He.eqO_ok c4, of_decide_eq_true c5⟩, He.eqO_ok c6, He.eqO_ok c7, c8, He.eqO_ok c9, c10, of_decide_eq_true c11, c12, of_decide_eq_true c13, of_decide_eq_true c14, He.eqO_ok c15, t.psf, t.psu, t.pdb, t.pcl, t.bnd, ?_⟩
  unfold fnX at e
  cases q : K.lookup (ma K (ga K d.x) "__init__") with
  | none => rw [q] at c1; cases c1
  | some o =>
    obtain ⟨oc, od, dt, osl⟩ := o
    rw [q] at c1 e
    cases dt with
    | func fd =>
      obtain ⟨n1, n2, n3, n4, n5, n6, n7, n8, n9, n10, n11, n12, n13, n14, n15⟩ := fd
      have e2 : (some (n1, n2, n3, n4, n5, n6, n7.map (·.1), n15) : FnX) = some (("__init__" : Str), d.qual, d.params, FuncBody.stmts d.body, d.scope, mainGlobals, [("__class__" : Str)], builtinsNs) := e
      simp only [Option.some.injEq, Prod.mk.injEq] at e2
      obtain ⟨h1, h2, h3, h4, h5, h6, h7, h8⟩ := e2
      subst h1 h2 h3 h4 h5 h6 h8
      have c1 : initB K (ga K d.x) P.main.file d.qual _ = true := c1
      unfold initB at c1
      obtain ⟨i1, c1⟩ := ba c1
      obtain ⟨i2, c1⟩ := ba c1
      obtain ⟨i3, c1⟩ := ba c1
      obtain ⟨i4, i5⟩ := ba c1
      simp only at i1 i2 i3 i4 i5
      have j1 := isNoneV_ok i1
      have j2 := isNoneV_ok i2
      subst j1 j2
      cases n13 with
      | ref cda =>
        simp only at i4
        cases q2 : K.lookup cda with
        | none => rw [q2] at i4; cases i4
        | some oc2 =>
          obtain ⟨ccl, cdd, dt2, ccs⟩ := oc2
          rw [q2] at i4
          cases dt2 with
          | fields vs =>
            simp only at i4
            cases q3 : vs[2]? with
            | none => rw [q3] at i4; cases i4
            | some fv =>
              rw [q3] at i4
              cases fv with
              | str z tf =>
                cases n7 with
                | nil => cases h7
                | cons y r =>
                  cases r with
                  | cons y2 r2 => simp at h7
                  | nil =>
                    obtain ⟨yn, cc⟩ := y
                    have hy : yn = "__class__" := by simpa using h7
                    subst hy
                    simp only at i5
                    cases q5 : K.lookup cc with
                    | none => rw [q5] at i5; cases i5
                    | some oc3 =>
                      obtain ⟨cl, cld, dt3, csl⟩ := oc3
                      rw [q5] at i5
                      cases dt3 with
                      | cell v =>
                        cases v with
                        | none => cases i5
                        | some v =>
                          cases v with
                          | ref D =>
                            have hD : D = ga K d.x := of_decide_eq_true i5
                            subst hD
                            exact ⟨d.qual, msg, oc, od, n10, n11, n12, cda, cc, n14, osl, p1, p2, a1, a2, a3, a4, a5, a6, b1, b2, b3, b4, ccl, cl, cdd, cld, vs, ccs, csl, z, tf, by rw [t1, t2, t3], i3, q2, q3, i4, q5, t4⟩
                          | _ => cases i5
                      | _ => cases i5
              | _ => cases i4
          | _ => cases i4
      | _ => cases i4
    | _ => cases c1
/-! ### further facts -/
inductive UT where
  | b (t : String) | o (c : Str)
def UT.v (K : PySem.W.Frag) : UT → Value
  | .b t => .type t
  | .o c => .ref (ga K c)
inductive Fb where
  | insk (x : Str)
  | kit (t : Tag) (u : UT) (b : Bool)
  | own (x : Str) (nm : String)
  | oth (x : Str) (nm : String) (t : Tag)
  | xf (x : Str)
  | xno (x f : Str)
  | stop (x : Str)
  | tup (x : Str) (zs : List Str)
def Fb.ok (K : PySem.W.Frag) : Fb → Bool
  | .insk x => (Fa.cls x).ok K && (He.eqO (PySem.W.findIn K (.ref (ga K x)) "__class__") (some (some (.builtin "object.__class__"))) && (He.eqO (PySem.W.specialIn K (.builtin "object.__class__") "__get__") (some (some (.builtin "getset_descriptor.__get__"))) &&
    (decide (PySem.W.takesIn K (.builtin "object.__class__") = some true) && decide (PySem.W.mroIn K (ga K x) (.type "object") = some true))))
  | .kit t u b => decide (PySem.W.kitOne K (tagV (ga K) t) (u.v K) = some b)
  | .own x nm => (Fa.cls x).ok K && (PySem.W.selfFirst K (ga K x) && ((Fa.meth x (PySem.dunder nm)).ok K && (match PySem.W.findIn K (.ref (ga K x)) (dunderR nm) with
    | some none => true
    | some (some (.ref _)) => true
    | _ => false)))
  | .oth x nm t => othK K (ga K x) nm (tagV (ga K) t)
  | .xf x => xfB K (ga K x)
  | .xno x f => He.eqO (PySem.W.findIn K (.ref (ga K x)) f) (some none)
  | .stop x => decide (PySem.W.subIn K (.ref (ga K x)) (.type "StopIteration") = some false)
  | .tup x zs => He.tupB K x (zs.map He.Dv.str)
section
variable {K : PySem.W.Frag}
theorem insk_ok {x : Str} (c : (Fb.insk x).ok K = true) : InsK K (ga K x) := by
  obtain ⟨c1, c⟩ := ba c
  obtain ⟨c2, c⟩ := ba c
  obtain ⟨c3, c⟩ := ba c
  obtain ⟨c4, c5⟩ := ba c
  exact ⟨He.cls_ok c1, He.eqO_ok c2, He.eqO_ok c3, of_decide_eq_true c4, of_decide_eq_true c5⟩
theorem kit_ok {t : Tag} {u : UT} {b : Bool} (c : (Fb.kit t u b).ok K = true) : PySem.W.kitOne K (tagV (ga K) t) (u.v K) = some b := of_decide_eq_true c
theorem own_ok {x : Str} {nm : String} (c : (Fb.own x nm).ok K = true) : OwnOp K (ga K x) nm (ma K (ga K x) (PySem.dunder nm)) := by
  obtain ⟨c1, c⟩ := ba c
  obtain ⟨c2, c⟩ := ba c
  obtain ⟨c3, c4⟩ := ba c
  refine ⟨He.cls_ok c1, c2, He.meth_ok c3, ?_⟩
  cases q : PySem.W.findIn K (.ref (ga K x)) (dunderR nm) with
  | none => rw [q] at c4; cases c4
  | some rc =>
    cases rc with
    | none => exact ⟨none, rfl, .inl rfl⟩
    | some v =>
      cases v with
      | ref g => exact ⟨_, rfl, .inr ⟨g, rfl⟩⟩
      | _ => rw [q] at c4; cases c4
theorem oth_ok {x : Str} {nm : String} {t : Tag} (c : (Fb.oth x nm t).ok K = true) : othK K (ga K x) nm (tagV (ga K) t) = true := c
theorem xf_ok {x : Str} (c : (Fb.xf x).ok K = true) : XfC K (ga K x) := xfB_ok c
theorem xno_ok {x f : Str} (c : (Fb.xno x f).ok K = true) : PySem.W.findIn K (.ref (ga K x)) f = some none := He.eqO_ok c
theorem stop_ok {x : Str} (c : (Fb.stop x).ok K = true) : PySem.W.subIn K (.ref (ga K x)) (.type "StopIteration") = some false := of_decide_eq_true c
theorem tup_ok {x : Str} {zs : List Str} (c : (Fb.tup x zs).ok K = true) (H : Hp) : SqT K H (ga K x) (zs.map V.str) := by
  have := He.tupB_ok c H
  rw [List.map_map] at this
  exact this
theorem isTab_nil {cn : Cn} {u : Value} : IsTab K cn u [] := ⟨fun _ _ e => (by cases e), fun _ _ e => (by cases e)⟩
theorem isTab_b {cn : Cn} {u : Value} {T : String} {q : Bool} {tb : List (Tag × Bool)} (h : PySem.W.kitOne K (.type T) u = some q) (t : IsTab K cn u tb) : IsTab K cn u ((.b T, q) :: tb) := ⟨fun k b e => by
  rw [List.lookup_cons] at e
  by_cases hk : k = .b T
  · subst hk; rw [beq_self_eq_true] at e; cases e; exact h
  · rw [beq_eq_false_iff_ne.mpr hk] at e; exact t.kit k b e, fun c b e => by
  rw [List.lookup_cons, beq_eq_false_iff_ne.mpr (by intro z; cases z)] at e
  exact t.ins c b e⟩
theorem isTab_o {cn : Cn} {u : Value} {x : Str} {q : Bool} {tb : List (Tag × Bool)} (i : InsK K (cn x)) (h : PySem.W.kitOne K (.ref (cn x)) u = some q) (t : IsTab K cn u tb) : IsTab K cn u ((.o x, q) :: tb) := ⟨fun k b e => by
  rw [List.lookup_cons] at e
  by_cases hk : k = .o x
  · subst hk; rw [beq_self_eq_true] at e; cases e; exact h
  · rw [beq_eq_false_iff_ne.mpr hk] at e; exact t.kit k b e, fun c b e => by
  rw [List.lookup_cons] at e
  by_cases hk : Tag.o c = .o x
  · cases hk; exact i
  · rw [beq_eq_false_iff_ne.mpr hk] at e; exact t.ins c b e⟩
end
/-! ### the Hook -/
abbrev AlM : Type := Bool × List FnW × List FnX
def obsM (file : Str) (fa : List Fa) (fb : List Fb) (fn : List DefD) (xn : List ExD) (K : PySem.W.Frag) : AlM :=
  (((fa.all fun f => f.ok K) && ((fb.all fun f => f.ok K) && (fn.all fun d => d.ok K))) && xn.all fun d => d.ok file K, fn.map fun d => fnW K d.at_, xn.map fun d => fnX K d.x)
def valM (fn : List DefD) (xn : List ExD) : AlM := (true, fn.map DefD.val, xn.map ExD.val)
structure SaysM (file : Str) (fa : List Fa) (fb : List Fb) (fn : List DefD) (xn : List ExD) (K : PySem.W.Frag) : Prop where
  eq : obsM file fa fb fn xn K = valM fn xn
  nl : ∀ a o, K.lookup a = some o → isLst o = false
def obsMG (n : Nat) (file : Str) (fa : List Fa) (fb : List Fb) (fn : List DefD) (xn : List ExD) (g : Addr → Option Obj) : AlM := obsM file fa fb fn xn (frM g (cStatics :: asD g n))
theorem frM_in {as : List Addr} {h : Heap} : (frM h.get? as).In h := fun _ _ e => (frM_mem e).1
def hookM (n : Nat) (file : Str) (fa : List Fa) (fb : List Fb) (fn : List DefD) (xn : List ExD) : PySem.W.Hook where
  α := AlM
  obs := fun s => obsMG n file fa fb fn xn s.heap.get?
  val := fun _ => valM fn xn
  says := fun _ h => ∃ K : PySem.W.Frag, K.In h ∧ SaysM file fa fb fn xn K
  of := fun _ _ e => ⟨_, frM_in, ⟨e, fun _ _ z => (frM_mem z).2⟩⟩
  keeps := fun _ _ _ ⟨K, hK, c⟩ k => ⟨K, PySem.W.Frag.In.keeps hK k, c⟩
theorem obsMG_eq {n : Nat} {file : Str} {fa : List Fa} {fb : List Fb} {fn : List DefD} {xn : List ExD} {g : Addr → Option Obj} {s : Shared} (h : ∀ a, g a = s.heap.get? a) : obsMG n file fa fb fn xn g = (hookM n file fa fb fn xn).obs s := by
  have e : g = s.heap.get? := funext h
  rw [e]; rfl
section
variable {file : Str} {fa : List Fa} {fb : List Fb} {fn : List DefD} {xn : List ExD} {K : PySem.W.Frag}
theorem all_at {α : Type} {p : α → Bool} {l : List α} {i : Nat} {x : α} (h : l.all p = true) (e : l[i]? = some x) : p x = true := List.all_eq_true.mp h x (List.mem_of_getElem? e)
theorem map_at {α β : Type} {f g : α → β} {l : List α} {i : Nat} {x : α} (h : l.map f = l.map g) (e : l[i]? = some x) : f x = g x := by
  have := congrArg (fun l => l[i]?) h
  simpa [List.getElem?_map, e] using this
theorem SaysM.fact (c : SaysM file fa fb fn xn K) (i : Nat) {f : Fa} (h : fa[i]? = some f := by rfl) : f.ok K = true := all_at (ba (ba (congrArg (fun z : AlM => z.1) c.eq)).1).1 h
theorem SaysM.more (c : SaysM file fa fb fn xn K) (i : Nat) {f : Fb} (h : fb[i]? = some f := by rfl) : f.ok K = true := all_at (ba (ba (ba (congrArg (fun z : AlM => z.1) c.eq)).1).2).1 h
theorem SaysM.def_ (c : SaysM file fa fb fn xn K) (i : Nat) {d : DefD} (h : fn[i]? = some d := by rfl) : ∃ fd, FunD K d.name d.qual d.params d.body d.scope (d.dvs K) (d.kws K) (He.fAd K d.at_) fd :=
  DefD.funD (map_at (congrArg (fun z : AlM => z.2.1) c.eq) h) (all_at (p := fun d => DefD.ok K d) (ba (ba (ba (congrArg (fun z : AlM => z.1) c.eq)).1).2).2 h)
theorem SaysM.exc {P : Program} (c : SaysM P.main.file fa fb fn xn K) (i : Nat) {d : ExD} (t : ExTxt d) (h : xn[i]? = some d := by rfl) : XTxt P K (ga K d.x) (ma K (ga K d.x) "__init__") d.f d.p :=
  xtxt_of (map_at (congrArg (fun z : AlM => z.2.2) c.eq) h) (all_at (p := fun d => ExD.ok P.main.file K d) (ba (congrArg (fun z : AlM => z.1) c.eq)).2 h) t
end
/-! ### the end -/
theorem rvs_ints {K : PySem.W.Frag} {cn : Cn} {r : Rho} {H : Hp} : ∀ ns : List Int, RVs K cn r H (ns.map MV.int) (ns.map V.int)
  | [] => .nil
  | n :: ns => .cons (.int n) (rvs_ints ns)
theorem call_law {P : Program} {w : World} {K : PySem.W.Frag} {mg mb : Str → Option Value} {cn : Cn} {k : Nat} {fa a : Addr} {s₁ : Shared} {vs : List Value} {ns : List Int} {h : List MV → List MV → MM MV}
    (KX : K.In s₁.heap) (nl : ∀ a o, K.lookup a = some o → isLst o = false) (hns : s₁.heap.Ns mainGlobals mg) (hb : s₁.heap.Ns builtinsNs mb) (hbb : ∀ x : Str, x ≠ "__name__" → mb x = bootBuiltins x) (hlim : s₁.heap.NoLimit) (hg : s₁.gens = #[])
    (ha : s₁.heap.get? a = some { cls := .type "list", data := .seq vs.toArray }) (hi : IntsAre vs ns) (hl : ns.length ≤ sizeLine) (hr : RoomG k callerA)
    (F : ∀ base : Heap, FnG P w K mg base cn k fa [] h) (hsp : ∃ m, h [.con (ns.map .int)] [] [] = .ok (.bl true) m) :
    codeAny (model P w) callerA (.call (.ref fa) ⟨[.ref a], []⟩) (fun r s' => r = .ok (.ret (.bool true)) ∧ OldK s₁.heap s'.heap ∧ s'.os = s₁.os ∧ AllBare s'.gens) s₁ := by
  have rv := vals_ints hi
  have hk : K.lookup a = none := by
    cases q : K.lookup a with
    | none => rfl
    | some o =>
      have e := KX a o q
      rw [ha] at e
      cases e
      exact absurd (nl _ _ q) (by simp [isLst])
  obtain ⟨H, hH⟩ : ∃ H : Hp, H = fun b => if b = a then some (.frz { cls := .type "list", data := .seq vs.toArray } (.lst (ns.map V.int))) else none := ⟨_, rfl⟩
  have Ha : H a = some (.frz { cls := .type "list", data := .seq vs.toArray } (.lst (ns.map V.int))) := by rw [hH]; exact if_pos rfl
  have Hn : ∀ b, b ≠ a → H b = none := fun b hb => by rw [hH]; exact if_neg hb
  have hok : HOk P w H s₁.heap := fun b u z => by
    by_cases hb : b = a
    · subst hb
      rw [Ha] at z
      cases z
      exact ⟨ha, by rw [List.length_map]; exact hl, vs, _, rv, ha⟩
    · rw [Hn b hb] at z; cases z
  have keep_of : ∀ {b : Addr} {o : Obj}, s₁.heap.get? b = some o → b ≠ a → (hidT s₁.heap H).get? b = some o := fun e n => hidT_get e (Hn _ n)
  have nsK : ∀ {b : Addr} {m : Str → Option Value}, s₁.heap.Ns b m → (hidT s₁.heap H).Ns b m := fun {b m} ⟨o, es, ep, e, d, r⟩ => ⟨o, es, ep, keep_of e (fun z => by
    subst z
    rw [ha] at e
    cases e
    cases d), d, r⟩
  have hKb : K.In (hidT s₁.heap H) := fun b o e => keep_of (KX b o e) fun z => by subst z; rw [hk] at e; cases e
  have hM : Mod K mg (hidT s₁.heap H) := ⟨hKb, nsK hns, ⟨mb, nsK hb, hbb⟩, let ⟨mc, h1, h2⟩ := hlim; ⟨mc, nsK h1, h2⟩⟩
  have e0 : Env0 P w K mg (hidT s₁.heap H) callerA [] s₁ H := ⟨rfl, hM, fun b o e => of_hidT e, Nat.le_of_eq (hidT_size _ _), trivial, fun b hb => absurd (show b ∈ ([] : List Addr) from hb) (by simp), hok, .of_eq hg⟩
  obtain ⟨m, hm⟩ := hsp
  refine codeAny_mono (F (hidT s₁.heap H) callerA [] s₁ H [.ref a] [] [.ref a] [] (fun v _ => v = .bl true) (fun _ _ _ => False) hr e0 (.cons rfl .nil) .nil rfl
    ⟨[], [], [.con (ns.map .int)], [], ⟨rfl, fun i o p e => by simp at e, fun i j p q e => by simp at e⟩, .cons (.con ⟨_, Ha⟩ (rvs_ints ns)) .nil, .nil, by rw [hm]; exact fun r' H' v _ _ hv => by cases hv; rfl⟩) fun r s' q => ?_
  cases r with
  | error e =>
    obtain ⟨_, _, _, _, _, _, _, _, _, _, _, _, z⟩ := q
    exact z.elim
  | ok fl =>
    cases fl with
    | ret u =>
      obtain ⟨v, H', os, bare, un, hok', r', q⟩ := q
      have q' : v = .bl true := q
      subst q'
      obtain rfl : u = Value.bool true := r'
      refine ⟨rfl, OldK.of_keep fun b o e => ?_, os, bare⟩
      by_cases hb : b = a
      · subst hb
        have z2 := un.frzs _ _ _ Ha
        obtain ⟨e2, _⟩ := hok' _ _ z2
        rw [ha] at e
        cases e
        exact e2
      · exact un.keep b o e (Hn b hb) (fun z => absurd (show b ∈ ([] : List Addr) from z) (by simp)) (by simp)
    | next => exact False.elim q
    | brk => exact False.elim q
    | cont => exact False.elim q
theorem walk_ofM {l : PySem.W.OpenLaw} {n k : Nat} {q : Program} {loose : List Str} {XP : (Str → Option Value) → Heap → Prop} {YP : World → Heap → Prop} {d : DefRec}
    (hn : l.most = some n) (hn2 : n ≤ sizeLine) (hdf : d.params.defaults = []) (hr : RoomG k callerA)
    (F : ∀ (w : World) (mg : Str → Option Value) (fa : Addr) (h : Heap), YP w h → h.Ns mainGlobals mg → mg d.name = some (.ref fa) →
      ∃ (K : PySem.W.Frag) (cn : Cn) (hl : List MV → List MV → MM MV), K.In h ∧ (∀ a o, K.lookup a = some o → isLst o = false) ∧ (∀ ns : List Int, ns.length ≤ n → ∃ m, hl [.con (ns.map .int)] [] [] = .ok (.bl true) m) ∧ ∀ base : Heap, FnG l.prog w K mg base cn k fa [] hl) :
    PySem.W.WalkO q loose XP YP l.row.toRowW d [] (fun f vs => PySem.call f vs) := by
  refine Att.attach_call hn hdf fun w s₀ s₁ mg mb fa o pm cd doc a vs ns G Y ho hd hcd hmg hobj hints hlen hg => ?_
  obtain ⟨K, cn, hl, KX, nl, hsp, hF⟩ := F w mg fa _ Y G.T.g hmg
  exact call_law KX nl G.T.g G.T.b G.T.builtins G.T.nolimit hg hobj hints (Nat.le_trans hlen hn2) hr hF (hsp ns hlen)
end Mi
end

section
set_option Elab.async false
set_option linter.all false
set_option maxRecDepth 100000
set_option maxHeartbeats 2000000
namespace Mi
open PySem PySem.Spec PyProof.Rows L2
section
variable {X : Cx} {cn : Cn} {W : WX}
theorem k_nil : JKw X cn W [] aNil := ⟨fun pos pins s σ H Q I w => by
  obtain ⟨r, m, e, hs, hr, w⟩ := w
  exact pk_nil.run pos pins s σ H Q I (w r H [] .refl hr .nil)⟩
theorem k_cons {a : Expr} {f : EM} {kws : List Keyword} {g : ME → MM (List MV)} {nm : Option Str} {kpos : Pos} (ha : JE X cn W a f) (hr : JKw X cn W kws g) : JKw X cn W (⟨nm, a, kpos⟩ :: kws) (aCons f g) := ⟨fun pos pins s σ H Q I w => by
  refine (pk_cons ha hr).run pos pins s σ H Q I ?_
  obtain ⟨r, m, e, hs, hr, w⟩ := w
  refine ⟨r, m, e, hs, hr, w.bind.mono (fun x m1 w1 r1 H1 v1 x1 hr1 hv1 => ?_) fun _ _ p => p⟩
  refine ⟨r1, m1, e, hs.ext x1, hr1, w1.bind.mono (fun xs m2 w2 r2 H2 v2 x2 hr2 hv2 => ?_) fun _ _ p => PostX.ext p x1⟩
  exact w2 r2 H2 _ (x1.trans x2) hr2 (.cons (hv1.ext x2) hv2)⟩
theorem aNil_len : ∀ e m bs m', aNil e m = .ok bs m' → bs.length = 0 := fun e m bs m' q => by cases q; rfl
theorem aCons_len {f : EM} {g : ME → MM (List MV)} {n : Nat} (h : ∀ e m bs m', g e m = .ok bs m' → bs.length = n) : ∀ e m bs m', aCons f g e m = .ok bs m' → bs.length = n + 1 := fun e m bs m' q => by
  unfold aCons at q
  rw [bind_run] at q
  cases q1 : f e m with
  | ok x m1 =>
    rw [q1] at q
    simp only [bind_run] at q
    cases q2 : g e m1 with
    | ok xs m2 => rw [q2] at q; cases q; rw [List.length_cons, h _ _ _ _ q2]
    | exc y m2 => rw [q2] at q; cases q
    | bad => rw [q2] at q; cases q
  | exc y m1 => rw [q1] at q; cases q
  | bad => rw [q1] at q; cases q
end
theorem one_c {p : Str → Prop} {x : Str} (h : p x) : ∀ c ∈ [x], p c := fun c hc => by rw [List.mem_singleton.mp hc]; exact h
theorem no_c {p : Str → Prop} : ∀ c ∈ ([] : List Str), p c := fun c hc => by cases hc
theorem two_c {p : Str → Prop} {x : Str} {l : List Str} (h : p x) (t : ∀ c ∈ l, p c) : ∀ c ∈ x :: l, p c := fun c hc => by
  rcases List.mem_cons.mp hc with rfl | hc
  · exact h
  · exact t c hc
section
variable {K : PySem.W.Frag} {C : Addr} {nm : String} {cn : Cn}
theorem ot_nil : ∀ t, ([] : List Tag).contains t = true → othK K C nm (tagV cn t) = true := fun t h => by cases h
theorem ot_cons {x : Tag} {l : List Tag} (h : othK K C nm (tagV cn x) = true) (t : ∀ t, l.contains t = true → othK K C nm (tagV cn t) = true) : ∀ t, (x :: l).contains t = true → othK K C nm (tagV cn t) = true := fun y hy => by
  rw [List.contains_cons] at hy
  cases q : (y == x) with
  | true => rw [eq_of_beq q]; exact h
  | false => rw [q] at hy; exact t y (by simpa using hy)
theorem oi_nil : ∀ c', ([] : List Tag).contains (.o c') = true → InsK K (cn c') := fun t h => by cases h
theorem oi_b {x : String} {l : List Tag} (t : ∀ c', l.contains (.o c') = true → InsK K (cn c')) : ∀ c', (Tag.b x :: l).contains (.o c') = true → InsK K (cn c') := fun y hy => by
  rw [List.contains_cons, beq_eq_false_iff_ne.mpr (by intro z; cases z)] at hy
  exact t y (by simpa using hy)
theorem oi_o {x : Str} {l : List Tag} (h : InsK K (cn x)) (t : ∀ c', l.contains (.o c') = true → InsK K (cn c')) : ∀ c', (Tag.o x :: l).contains (.o c') = true → InsK K (cn c') := fun y hy => by
  rw [List.contains_cons] at hy
  by_cases q : Tag.o y = .o x
  · cases q; exact h
  · rw [beq_eq_false_iff_ne.mpr q] at hy; exact t y (by simpa using hy)
/-- the six built-in types -/
def tab6 (a b c d e f : Bool) : List (Tag × Bool) := [(.b "NoneType", a), (.b "bool", b), (.b "int", c), (.b "str", d), (.b "tuple", e), (.b "list", f)]
theorem isTab_int : IsTab K cn (.type "int") (tab6 false true true false false false) := isTab_b (kit_ty (by decide +kernel)) (isTab_b (kit_ty (by decide +kernel)) (isTab_b (kit_ty (by decide +kernel)) (isTab_b (kit_ty (by decide +kernel)) (isTab_b (kit_ty (by decide +kernel)) (isTab_b (kit_ty (by decide +kernel)) isTab_nil)))))
theorem isTab_bool : IsTab K cn (.type "bool") (tab6 false true false false false false) := isTab_b (kit_ty (by decide +kernel)) (isTab_b (kit_ty (by decide +kernel)) (isTab_b (kit_ty (by decide +kernel)) (isTab_b (kit_ty (by decide +kernel)) (isTab_b (kit_ty (by decide +kernel)) (isTab_b (kit_ty (by decide +kernel)) isTab_nil)))))
theorem isTab_str : IsTab K cn (.type "str") (tab6 false false false true false false) := isTab_b (kit_ty (by decide +kernel)) (isTab_b (kit_ty (by decide +kernel)) (isTab_b (kit_ty (by decide +kernel)) (isTab_b (kit_ty (by decide +kernel)) (isTab_b (kit_ty (by decide +kernel)) (isTab_b (kit_ty (by decide +kernel)) isTab_nil)))))
theorem isTab_tuple : IsTab K cn (.type "tuple") (tab6 false false false false true false) := isTab_b (kit_ty (by decide +kernel)) (isTab_b (kit_ty (by decide +kernel)) (isTab_b (kit_ty (by decide +kernel)) (isTab_b (kit_ty (by decide +kernel)) (isTab_b (kit_ty (by decide +kernel)) (isTab_b (kit_ty (by decide +kernel)) isTab_nil)))))
theorem isTab_list : IsTab K cn (.type "list") (tab6 false false false false false true) := isTab_b (kit_ty (by decide +kernel)) (isTab_b (kit_ty (by decide +kernel)) (isTab_b (kit_ty (by decide +kernel)) (isTab_b (kit_ty (by decide +kernel)) (isTab_b (kit_ty (by decide +kernel)) (isTab_b (kit_ty (by decide +kernel)) isTab_nil)))))
theorem isTab_dict : IsTab K cn (.type "dict") (tab6 false false false false false false) := isTab_b (kit_ty (by decide +kernel)) (isTab_b (kit_ty (by decide +kernel)) (isTab_b (kit_ty (by decide +kernel)) (isTab_b (kit_ty (by decide +kernel)) (isTab_b (kit_ty (by decide +kernel)) (isTab_b (kit_ty (by decide +kernel)) isTab_nil)))))
end
def clsBody (s : Stmt) : List Stmt := match s with
  | .ClassDef _ _ _ b _ _ _ _ _ _ _ => b
  | _ => []
end Mi
end

section
set_option Elab.async false
set_option linter.all false
set_option maxRecDepth 100000
set_option maxHeartbeats 2000000
namespace Mi
open PySem L2
/-! ### plain tools over the mirrors -/
/-- how a body's end is a call's -/
def ofSO : SO → Res MV
  | .rt a m' => .ok a m'
  | .nx _ m' => .ok .non m'
  | .exc x _ m' => .exc x m'
  | _ => .bad
theorem runF_eq {len : Nat} {g : SM} {as : List MV} {m : MH} : runF len g as m = ofSO (g (startM len as) m) := by
  unfold runF ofSO
  cases g (startM len as) m <;> rfl
section
variable {e e1 : ME} {m m1 : MH} {a b : MV} {f g k : EM}
@[simp] theorem ev0 {x : MV} {t : ME} : eVar 0 (some x :: t) m = .ok x m := rfl
@[simp] theorem evS {i : Nat} {x : Option MV} {t : ME} : eVar (i + 1) (x :: t) m = eVar i t m := rfl
@[simp] theorem ec {x : MV} : eC x e m = .ok x m := rfl
@[simp] theorem ebin {h : MV → MV → MM MV} : eBin h f g e m = (match f e m with
  | .ok x m1 => (match g e m1 with
    | .ok y m2 => h x y m2
    | .exc z m2 => .exc z m2
    | .bad => .bad)
  | .exc z m1 => .exc z m1
  | .bad => .bad) := by
  unfold eBin
  rw [bind_run]
  cases f e m with
  | ok x m1 =>
    simp only [bind_run]
    cases g e m1 <;> rfl
  | exc z m1 => rfl
  | bad => rfl
@[simp] theorem echain {h h' : MV → MV → MM MV} : eChain h h' f g k e m = (match f e m with
  | .ok x m1 => (match g e m1 with
    | .ok y m2 => (match h x y m2 with
      | .ok (.bl true) m3 => (match k e m3 with
        | .ok z m4 => h' y z m4
        | .exc z m4 => .exc z m4
        | .bad => .bad)
      | .ok (.bl false) m3 => .ok (.bl false) m3
      | .ok _ _ => .bad
      | .exc z m3 => .exc z m3
      | .bad => .bad)
    | .exc z m2 => .exc z m2
    | .bad => .bad)
  | .exc z m1 => .exc z m1
  | .bad => .bad) := by
  unfold eChain
  rw [bind_run]
  cases f e m with
  | ok x m1 =>
    simp only [bind_run]
    cases g e m1 with
    | ok y m2 =>
      simp only
      cases h x y m2 with
      | ok c m3 =>
        cases c with
        | bl q =>
          cases q with
          | true =>
            simp only [asB, ret_run, if_true, bind_run]
            cases k e m3 <;> rfl
          | false => rfl
        | _ => rfl
      | exc z m3 => rfl
      | bad => rfl
    | exc z m2 => rfl
    | bad => rfl
  | exc z m1 => rfl
  | bad => rfl
@[simp] theorem lift2_run {h : OP2} : lift2 h a b m = (match h a b m with
  | some (c, m') => .ok c m'
  | none => .bad) := rfl
@[simp] theorem eand : eAndM f g e m = (match f e m with
  | .ok (.bl true) m1 => g e m1
  | .ok (.bl false) m1 => .ok (.bl false) m1
  | .ok _ _ => .bad
  | .exc z m1 => .exc z m1
  | .bad => .bad) := by
  unfold eAndM
  rw [bind_run]
  cases f e m with
  | ok x m1 =>
    cases x with
    | bl q => cases q <;> rfl
    | _ => rfl
  | exc z m1 => rfl
  | bad => rfl
@[simp] theorem eor : eOrM f g e m = (match f e m with
  | .ok (.bl true) m1 => .ok (.bl true) m1
  | .ok (.bl false) m1 => g e m1
  | .ok _ _ => .bad
  | .exc z m1 => .exc z m1
  | .bad => .bad) := by
  unfold eOrM
  rw [bind_run]
  cases f e m with
  | ok x m1 =>
    cases x with
    | bl q => cases q <;> rfl
    | _ => rfl
  | exc z m1 => rfl
  | bad => rfl
@[simp] theorem enot : eNotM f e m = (match f e m with
  | .ok (.bl q) m1 => .ok (.bl (!q)) m1
  | .ok _ _ => .bad
  | .exc z m1 => .exc z m1
  | .bad => .bad) := by
  unfold eNotM
  rw [bind_run]
  cases f e m with
  | ok x m1 =>
    cases x with
    | bl q => cases q <;> rfl
    | _ => rfl
  | exc z m1 => rfl
  | bad => rfl
@[simp] theorem tof : tOf f e m = (match f e m with
  | .ok (.bl q) m1 => .ok q m1
  | .ok _ _ => .bad
  | .exc z m1 => .exc z m1
  | .bad => .bad) := by
  unfold tOf
  rw [bind_run]
  cases f e m with
  | ok x m1 =>
    cases x with
    | bl q => cases q <;> rfl
    | _ => rfl
  | exc z m1 => rfl
  | bad => rfl
variable {t u : ME → MM Bool}
@[simp] theorem tand : tAndM t u e m = (match t e m with
  | .ok true m1 => u e m1
  | .ok false m1 => .ok false m1
  | .exc z m1 => .exc z m1
  | .bad => .bad) := by
  unfold tAndM
  rw [bind_run]
  cases t e m with
  | ok x m1 => cases x <;> rfl
  | exc z m1 => rfl
  | bad => rfl
@[simp] theorem tor : tOrM t u e m = (match t e m with
  | .ok true m1 => .ok true m1
  | .ok false m1 => u e m1
  | .exc z m1 => .exc z m1
  | .bad => .bad) := by
  unfold tOrM
  rw [bind_run]
  cases t e m with
  | ok x m1 => cases x <;> rfl
  | exc z m1 => rfl
  | bad => rfl
@[simp] theorem tnot : tNotM t e m = (match t e m with
  | .ok q m1 => .ok (!q) m1
  | .exc z m1 => .exc z m1
  | .bad => .bad) := by
  unfold tNotM
  rw [bind_run]
  cases t e m <;> rfl
@[simp] theorem tyes : tYesM e m = .ok true m := rfl
@[simp] theorem eif : eIf t f g e m = (match t e m with
  | .ok true m1 => f e m1
  | .ok false m1 => g e m1
  | .exc z m1 => .exc z m1
  | .bad => .bad) := by
  unfold eIf
  rw [bind_run]
  cases t e m with
  | ok x m1 => cases x <;> rfl
  | exc z m1 => rfl
  | bad => rfl
@[simp] theorem eisi {tb : List (Tag × Bool)} : eIsi tb f e m = (match f e m with
  | .ok x m1 => (match isO tb x m1 with
    | some q => .ok (.bl q) m1
    | none => .bad)
  | .exc z m1 => .exc z m1
  | .bad => .bad) := by
  unfold eIsi
  rw [bind_run]
  cases f e m <;> rfl
@[simp] theorem eneg : eNeg f e m = (match f e m with
  | .ok (.int i) m1 => .ok (.int (-i)) m1
  | .ok _ _ => .bad
  | .exc z m1 => .exc z m1
  | .bad => .bad) := by
  unfold eNeg
  rw [bind_run]
  cases f e m with
  | ok x m1 => cases x <;> rfl
  | exc z m1 => rfl
  | bad => rfl
variable {af ag : ME → MM (List MV)}
@[simp] theorem anil : aNil e m = .ok [] m := rfl
@[simp] theorem acons : aCons f af e m = (match f e m with
  | .ok x m1 => (match af e m1 with
    | .ok xs m2 => .ok (x :: xs) m2
    | .exc z m2 => .exc z m2
    | .bad => .bad)
  | .exc z m1 => .exc z m1
  | .bad => .bad) := by
  unfold aCons
  rw [bind_run]
  cases f e m with
  | ok x m1 =>
    simp only [bind_run]
    cases af e m1 <;> rfl
  | exc z m1 => rfl
  | bad => rfl
@[simp] theorem astar : aStar f af e m = (match f e m with
  | .ok x m1 => (match itemsM x m1 with
    | .ok ys m2 => (match af e m2 with
      | .ok xs m3 => .ok (ys ++ xs) m3
      | .exc z m3 => .exc z m3
      | .bad => .bad)
    | .exc z m2 => .exc z m2
    | .bad => .bad)
  | .exc z m1 => .exc z m1
  | .bad => .bad) := by
  unfold aStar
  rw [bind_run]
  cases f e m with
  | ok x m1 =>
    simp only [bind_run]
    cases itemsM x m1 with
    | ok ys m2 =>
      simp only [bind_run]
      cases af e m2 <;> rfl
    | exc z m2 => rfl
    | bad => rfl
  | exc z m1 => rfl
  | bad => rfl
@[simp] theorem etup : eTup af e m = (match af e m with
  | .ok xs m1 => if xs.length ≤ sizeLine then .ok (.tup xs) m1 else .bad
  | .exc z m1 => .exc z m1
  | .bad => .bad) := by
  unfold eTup
  rw [bind_run]
  cases af e m with
  | ok xs m1 =>
    simp only
    by_cases h : xs.length ≤ sizeLine
    · rw [if_pos h, if_pos h] <;> rfl
    · rw [if_neg h, if_neg h] <;> rfl
  | exc z m1 => rfl
  | bad => rfl
@[simp] theorem elstc : eLstC af e m = (match af e m with
  | .ok xs m1 => if xs.length ≤ sizeLine then .ok (.con xs) m1 else .bad
  | .exc z m1 => .exc z m1
  | .bad => .bad) := by
  unfold eLstC
  rw [bind_run]
  cases af e m with
  | ok xs m1 =>
    simp only
    by_cases h : xs.length ≤ sizeLine
    · rw [if_pos h, if_pos h] <;> rfl
    · rw [if_neg h, if_neg h] <;> rfl
  | exc z m1 => rfl
  | bad => rfl
@[simp] theorem elst : eLst af e m = (match af e m with
  | .ok xs m1 => if xs.length ≤ sizeLine then .ok (.ref m1.length) (m1 ++ [.lst xs]) else .bad
  | .exc z m1 => .exc z m1
  | .bad => .bad) := by
  unfold eLst
  rw [bind_run]
  cases af e m with
  | ok xs m1 =>
    simp only
    by_cases h : xs.length ≤ sizeLine
    · rw [if_pos h, if_pos h] <;> rfl
    · rw [if_neg h, if_neg h] <;> rfl
  | exc z m1 => rfl
  | bad => rfl
@[simp] theorem eapp {h : OPn} : eApp h af e m = (match af e m with
  | .ok xs m1 => (match h xs m1 with
    | some (c, m') => .ok c m'
    | none => .bad)
  | .exc z m1 => .exc z m1
  | .bad => .bad) := by
  unfold eApp
  rw [bind_run]
  cases af e m <;> rfl
@[simp] theorem ecall {h : List MV → MM MV} : eCall h af e m = (match af e m with
  | .ok xs m1 => h xs m1
  | .exc z m1 => .exc z m1
  | .bad => .bad) := by
  unfold eCall
  rw [bind_run]
  cases af e m <;> rfl
@[simp] theorem ecallk {h : List MV → List MV → MM MV} : eCallK h af ag e m = (match af e m with
  | .ok xs m1 => (match ag e m1 with
    | .ok ys m2 => h xs ys m2
    | .exc z m2 => .exc z m2
    | .bad => .bad)
  | .exc z m1 => .exc z m1
  | .bad => .bad) := by
  unfold eCallK
  rw [bind_run]
  cases af e m with
  | ok x m1 =>
    simp only [bind_run]
    cases ag e m1 <;> rfl
  | exc z m1 => rfl
  | bad => rfl
@[simp] theorem ecalls {h : List MV → MM MV} : eCallS h f e m = (match f e m with
  | .ok x m1 => (match itemsM x m1 with
    | .ok xs m2 => h xs m2
    | .exc z m2 => .exc z m2
    | .bad => .bad)
  | .exc z m1 => .exc z m1
  | .bad => .bad) := by
  unfold eCallS
  rw [bind_run]
  cases f e m with
  | ok x m1 =>
    simp only [bind_run]
    cases itemsM x m1 <;> rfl
  | exc z m1 => rfl
  | bad => rfl
@[simp] theorem efld {cs : List Str} {fd : Str} : eFld cs fd f e m = (match f e m with
  | .ok x m1 => fldM cs fd x m1
  | .exc z m1 => .exc z m1
  | .bad => .bad) := by
  unfold eFld
  rw [bind_run]
  cases f e m <;> rfl
@[simp] theorem elock : eLock f e m = (match f e m with
  | .ok (.ref n) m1 => (match m1[n]? with
    | some (.lst xs) => .ok (.con xs) (m1.set n .ded)
    | _ => .bad)
  | .ok _ _ => .bad
  | .exc z m1 => .exc z m1
  | .bad => .bad) := by
  unfold eLock
  rw [bind_run]
  cases f e m with
  | ok x m1 => cases x <;> rfl
  | exc z m1 => rfl
  | bad => rfl
@[simp] theorem emt {T : String} {h : OPn} : eMt T h f af e m = (match f e m with
  | .ok o m1 => if ofT T o m1 = true then (match af e m1 with
    | .ok xs m2 => (match h (o :: xs) m2 with
      | some (c, m') => .ok c m'
      | none => .bad)
    | .exc z m2 => .exc z m2
    | .bad => .bad) else .bad
  | .exc z m1 => .exc z m1
  | .bad => .bad) := by
  unfold eMt
  rw [bind_run]
  cases f e m with
  | ok o m1 =>
    simp only [bind_run]
    by_cases h0 : ofT T o m1 = true
    · rw [if_pos h0, if_pos h0, bind_run]
      cases af e m1 <;> rfl
    · rw [if_neg h0, if_neg h0] <;> rfl
  | exc z m1 => rfl
  | bad => rfl
variable {lo hi : ME → MM (Option Int)}
@[simp] theorem onone : oNone e m = .ok none m := rfl
@[simp] theorem osome : oSome f e m = (match f e m with
  | .ok (.int i) m1 => .ok (some i) m1
  | .ok _ _ => .bad
  | .exc z m1 => .exc z m1
  | .bad => .bad) := by
  unfold oSome
  rw [bind_run]
  cases f e m with
  | ok x m1 => cases x <;> rfl
  | exc z m1 => rfl
  | bad => rfl
@[simp] theorem esl : eSl f lo hi e m = (match f e m with
  | .ok x m1 => (match lo e m1 with
    | .ok l m2 => (match hi e m2 with
      | .ok h m3 => slM x l h m3
      | .exc z m3 => .exc z m3
      | .bad => .bad)
    | .exc z m2 => .exc z m2
    | .bad => .bad)
  | .exc z m1 => .exc z m1
  | .bad => .bad) := by
  unfold eSl
  rw [bind_run]
  cases f e m with
  | ok x m1 =>
    simp only [bind_run]
    cases lo e m1 with
    | ok l m2 =>
      simp only [bind_run]
      cases hi e m2 <;> rfl
    | exc z m2 => rfl
    | bad => rfl
  | exc z m1 => rfl
  | bad => rfl
@[simp] theorem emeth {mt : Str} {ms : List (Str × (List MV → MM MV))} : eMeth mt ms f af e m = (match f e m with
  | .ok o m1 => (match clsM m1 o with
    | some (c, fs) => (match ms.lookup c, fs.lookup mt with
      | some h, none => (match af e m1 with
        | .ok as m2 => h (o :: as) m2
        | .exc z m2 => .exc z m2
        | .bad => .bad)
      | _, _ => .bad)
    | none => .bad)
  | .exc z m1 => .exc z m1
  | .bad => .bad) := by
  unfold eMeth
  rw [bind_run]
  cases f e m with
  | ok o m1 =>
    simp only [bind_run]
    cases clsM m1 o with
    | none => rfl
    | some cf =>
      obtain ⟨c, fs⟩ := cf
      simp only
      cases ms.lookup c with
      | none => cases fs.lookup mt <;> rfl
      | some h =>
        cases fs.lookup mt with
        | some _ => rfl
        | none =>
          simp only [bind_run]
          cases af e m1 <;> rfl
  | exc z m1 => rfl
  | bad => rfl
/-! statements -/
variable {s s2 : SM}
@[simp] theorem sseq : sSeq s s2 e m = (match s e m with
  | .nx e' m' => s2 e' m'
  | o => o) := rfl
@[simp] theorem sexpr : sExpr f e m = (match f e m with
  | .ok _ m' => .nx e m'
  | .exc x m' => .exc x e m'
  | .bad => .bad) := rfl
@[simp] theorem sret : sRet f e m = (match f e m with
  | .ok a m' => .rt a m'
  | .exc x m' => .exc x e m'
  | .bad => .bad) := rfl
@[simp] theorem sset {i : Nat} : sSet i f e m = (match f e m with
  | .ok a m' => .nx (e.set i (some a)) m'
  | .exc x m' => .exc x e m'
  | .bad => .bad) := rfl
@[simp] theorem sif : sIf t s s2 e m = (match t e m with
  | .ok true m' => s e m'
  | .ok false m' => s2 e m'
  | .exc x m' => .exc x e m'
  | .bad => .bad) := by
  unfold sIf doT
  cases t e m with
  | ok x m1 => cases x <;> rfl
  | exc z m1 => rfl
  | bad => rfl
@[simp] theorem snil : sNil e m = .nx e m := rfl
@[simp] theorem sraise {c fd : Str} : sRaise c fd f e m = (match f e m with
  | .ok a m' => .exc ⟨c, [(fd, a)]⟩ e m'
  | .exc x m' => .exc x e m'
  | .bad => .bad) := rfl
@[simp] theorem spar {i j : Nat} : sPar i j af e m = (match af e m with
  | .ok [x, y] m' => .nx ((e.set i (some x)).set j (some y)) m'
  | .ok _ _ => .bad
  | .exc x m' => .exc x e m'
  | .bad => .bad) := rfl
@[simp] theorem sasg {gt : GM} : sAsg gt f e m = (match f e m with
  | .ok a m' => (match gt a e with
    | some e' => .nx e' m'
    | none => .bad)
  | .exc x m' => .exc x e m'
  | .bad => .bad) := rfl
@[simp] theorem ssetix : sSetIx f g k e m = (match f e m with
  | .ok v m1 => (match g e m1 with
    | .ok o m2 => (match k e m2 with
      | .ok i m3 => (match setO o i v m3 with
        | some m' => .nx e m'
        | none => .bad)
      | .exc x m3 => .exc x e m3
      | .bad => .bad)
    | .exc x m2 => .exc x e m2
    | .bad => .bad)
  | .exc x m1 => .exc x e m1
  | .bad => .bad) := rfl
@[simp] theorem sfor {src : ME → MM Src} {gt : GM} : sFor src gt s e m = (match src e m with
  | .ok sr m1 => forS sr gt s e m1
  | .exc x m1 => .exc x e m1
  | .bad => .bad) := rfl
@[simp] theorem iseq : iSeqM f e m = (match f e m with
  | .ok x m1 => srcSeq x m1
  | .exc x m1 => .exc x m1
  | .bad => .bad) := by
  unfold iSeqM
  rw [bind_run]
  cases f e m <;> rfl
@[simp] theorem ienum : iEnumM f e m = (match f e m with
  | .ok x m1 => srcEnum x m1
  | .exc x m1 => .exc x m1
  | .bad => .bad) := by
  unfold iEnumM
  rw [bind_run]
  cases f e m <;> rfl
@[simp] theorem irange1 : iRange1 f e m = (match f e m with
  | .ok (.int j) m1 => if -(2 ^ 62) ≤ j ∧ j < 2 ^ 62 then .ok (.fx (rngL 0 j)) m1 else .bad
  | .ok _ _ => .bad
  | .exc x m1 => .exc x m1
  | .bad => .bad) := by
  unfold iRange1
  rw [bind_run]
  cases f e m with
  | ok x m1 =>
    cases x with
    | int j =>
      simp only
      by_cases h : -(2 ^ 62) ≤ j ∧ j < 2 ^ 62
      · rw [if_pos h, if_pos h] <;> rfl
      · rw [if_neg h, if_neg h] <;> rfl
    | _ => rfl
  | exc z m1 => rfl
  | bad => rfl
@[simp] theorem istr : iStrM f e m = (match f e m with
  | .ok (.str z) m1 => .ok (.fx (signsL z)) m1
  | .ok _ _ => .bad
  | .exc x m1 => .exc x m1
  | .bad => .bad) := by
  unfold iStrM
  rw [bind_run]
  cases f e m with
  | ok x m1 => cases x <;> rfl
  | exc z m1 => rfl
  | bad => rfl
@[simp] theorem ecomp {src : ME → MM Src} {vs : List Nat} {turn : ME → MV → MM (List MV)} : eComp src vs turn e m = (match src e m with
  | .ok sr m1 => (match collS sr (turn (wipeM e vs)) m1 with
    | .ok ys m2 => if ys.length ≤ sizeLine then .ok (.con ys) m2 else .bad
    | _ => .bad)
  | .exc x m1 => .exc x m1
  | .bad => .bad) := rfl
@[simp] theorem turnc {gt : GM} : turnC gt t f e a m = (match gt a e with
  | none => .bad
  | some e1 => (match t e1 m with
    | .ok true m1 => (match f e1 m1 with
      | .ok y m2 => .ok [y] m2
      | _ => .bad)
    | .ok false m1 => .ok [] m1
    | _ => .bad)) := rfl
@[simp] theorem sfx {xs : List MV} {gt : GM} : forS (.fx xs) gt s e m = forL gt s xs e m := rfl
@[simp] theorem cfx {xs : List MV} {turn : MV → MM (List MV)} : collS (.fx xs) turn m = collL turn xs m := rfl
end
@[simp] theorem gnm {i : Nat} {a : MV} {e : ME} : gNm i a e = some (e.set i (some a)) := rfl
/-- a comprehension whose turns leave the heap as it is: what each adds -/
theorem collL_pure {turn : MV → MM (List MV)} {φ : MV → List MV} {m : MH} : ∀ {xs : List MV}, (∀ x ∈ xs, turn x m = .ok (φ x) m) → collL turn xs m = .ok (xs.flatMap φ) m
  | [], _ => rfl
  | x :: xs, h => by
    unfold collL
    rw [h x List.mem_cons_self]
    simp only
    rw [collL_pure fun y hy => h y (List.mem_cons_of_mem _ hy)]
    rfl
/-- .. that may change it -/
theorem collL_inv {turn : MV → MM (List MV)} {φ : MV → List MV} {J : MH → Prop} : ∀ {xs : List MV} {m : MH}, J m → (∀ x ∈ xs, ∀ m, J m → ∃ m', turn x m = .ok (φ x) m' ∧ J m') → ∃ m', collL turn xs m = .ok (xs.flatMap φ) m' ∧ J m'
  | [], m, j, _ => ⟨m, rfl, j⟩
  | x :: xs, m, j, h => by
    obtain ⟨m1, h1, j1⟩ := h x List.mem_cons_self m j
    obtain ⟨m2, h2, j2⟩ := collL_inv (xs := xs) j1 fun y hy => h y (List.mem_cons_of_mem _ hy)
    refine ⟨m2, ?_, j2⟩
    unfold collL
    rw [h1]
    simp only
    rw [h2]
    rfl
/-- a for over known items, by what holds between two turns -/
theorem forL_inv {gt : GM} {body : SM} (J : List MV → ME → MH → Prop) : ∀ {xs pre : List MV} {e : ME} {m : MH}, J pre e m →
    (∀ pre x post e m, (pre ++ [x]) ++ post = pre ++ (x :: post) → J pre e m → x ∈ xs → ∃ e1, gt x e = some e1 ∧ ∃ e2 m2, (body e1 m = .nx e2 m2 ∨ body e1 m = .ct e2 m2) ∧ J (pre ++ [x]) e2 m2) → ∃ e2 m2, forL gt body xs e m = .nx e2 m2 ∧ J (pre ++ xs) e2 m2
  | [], pre, e, m, j, _ => ⟨e, m, rfl, by rw [List.append_nil]; exact j⟩
  | x :: xs, pre, e, m, j, h => by
    obtain ⟨e1, g1, e2, m2, b1, j1⟩ := h pre x [] e m (by simp) j List.mem_cons_self
    obtain ⟨e3, m3, f3, j3⟩ := forL_inv J (xs := xs) (pre := pre ++ [x]) j1 fun pre y post e m q j hy => h pre y post e m q j (List.mem_cons_of_mem _ hy)
    refine ⟨e3, m3, ?_, by simpa using j3⟩
    unfold forL
    rw [g1]
    simp only
    rcases b1 with b1 | b1 <;> rw [b1] <;> exact f3
/-! ### data -/
mutual
/-- the value that is this data, lists held for good -/
def mvD : PyData → MV
  | .none => .non
  | .bool b => .bl b
  | .int i => .int i
  | .str x => .str x
  | .list xs => .con (mvDs xs)
  | .tuple xs => .tup (mvDs xs)
  | .dict _ => .non
def mvDs : List PyData → List MV
  | [] => []
  | x :: xs => mvD x :: mvDs xs
end
theorem mvDs_map : ∀ xs : List PyData, mvDs xs = xs.map mvD
  | [] => rfl
  | x :: xs => by rw [mvDs, mvDs_map xs]; rfl
mutual
theorem dat_mvD {m : MH} : ∀ (d : PyData) (n : Nat), d.canLay0 = true → d.depth ≤ n → dat (n + 1) m (mvD d) = some d
  | .none, n, _, _ => rfl
  | .bool b, n, _, _ => rfl
  | .int i, n, _, _ => rfl
  | .str x, n, _, _ => rfl
  | .list xs, n, h, hd => by
    rw [PyData.depth] at hd
    show (datL (dat n m) (mvDs xs)).map PyData.list = _
    obtain ⟨k, rfl⟩ : ∃ k, n = k + 1 := ⟨n - 1, by omega⟩
    rw [datL_mvDs xs k (by simpa [PyData.canLay0] using h) (by omega)]
    rfl
  | .tuple xs, n, h, hd => by
    rw [PyData.depth] at hd
    show (datL (dat n m) (mvDs xs)).map PyData.tuple = _
    obtain ⟨k, rfl⟩ : ∃ k, n = k + 1 := ⟨n - 1, by omega⟩
    rw [datL_mvDs xs k (by simpa [PyData.canLay0] using h) (by omega)]
    rfl
  | .dict kvs, n, h, _ => by simp [PyData.canLay0] at h
theorem datL_mvDs {m : MH} : ∀ (xs : List PyData) (n : Nat), PyData.canLayAll0 xs = true → PyData.depthAll xs ≤ n → datL (dat (n + 1) m) (mvDs xs) = some xs
  | [], n, _, _ => rfl
  | x :: xs, n, h, hd => by
    have h' : x.canLay0 = true ∧ PyData.canLayAll0 xs = true := by simpa [PyData.canLayAll0] using h
    rw [PyData.depthAll] at hd
    unfold mvDs datL
    rw [dat_mvD x n h'.1 (by omega), datL_mvDs xs n h'.2 (by omega)]
end
theorem datS_mvD {m : MH} {d : PyData} (h : d.canLay0 = true) (hd : d.depth ≤ 39) : datS m (mvD d) = some d := by
  unfold datS
  rw [dat_mvD d 39 h hd]
  have : SeqAt.shaped d = true := by
    unfold SeqAt.shaped
    rw [h, Bool.true_and]
    exact decide_eq_true (by omega)
  simp only [this, if_true]
theorem eqO_mvD {m : MH} {d f : PyData} {neg : Bool} (h : d.canLay0 = true) (hd : d.depth ≤ 39) (h' : f.canLay0 = true) (hd' : f.depth ≤ 39) : Mi.eqO neg (mvD d) (mvD f) m = some (.bl (if neg then !PyData.eqv d f else PyData.eqv d f), m) := by
  unfold Mi.eqO
  rw [datS_mvD h hd, datS_mvD h' hd']
section
variable {m : MH} {xs ys : List MV} {i j : Int} {x y : Str} {a b c d e f q neg : Bool}
@[simp] theorem ixO_tup : ixO (.tup xs) (.int i) m = (atI xs i).map fun x => (x, m) := rfl
@[simp] theorem ixO_con : ixO (.con xs) (.int i) m = (atI xs i).map fun x => (x, m) := rfl
@[simp] theorem atI_0 {α : Type} {u : α} {l : List α} : atI (u :: l) 0 = some u := by
  unfold atI L2.ixN
  rw [if_pos (by decide), if_pos (by rw [List.length_cons]; omega)]
  rfl
@[simp] theorem atI_1 {α : Type} {u v : α} {l : List α} : atI (u :: v :: l) 1 = some v := by
  unfold atI L2.ixN
  rw [if_pos (by decide), if_pos (by rw [List.length_cons, List.length_cons]; omega)]
  rfl
theorem atI_nat {α : Type} {l : List α} {k : Nat} : atI l (k : Int) = l[k]? := by
  unfold atI L2.ixN
  rw [if_pos (Int.natCast_nonneg _)]
  by_cases h : (k : Int) < l.length
  · rw [if_pos h]; rfl
  · rw [if_neg h, List.getElem?_eq_none (by omega)]; rfl
theorem atI_m1 {α : Type} {l : List α} : atI l (-1) = l.getLast? := by
  unfold atI L2.ixN
  rw [if_neg (by omega)]
  by_cases h : l = []
  · subst h; rfl
  · have hp : 0 < l.length := List.length_pos_iff.mpr h
    rw [if_pos (by omega), List.getLast?_eq_getElem?]
    show l[(((l.length : Nat) : Int) + -1).toNat]? = _
    congr 1
    omega
@[simp] theorem inO_eq {u v : MV} : inO neg u v m = (inB u v m).map fun q => (.bl (if neg then !q else q), m) := rfl
@[simp] theorem isNon_non : isNonO neg .non .non m = some (.bl (!neg), m) := rfl
@[simp] theorem isNon_int : isNonO neg (.int i) .non m = some (.bl neg, m) := rfl
@[simp] theorem isNon_str : isNonO neg (.str x) .non m = some (.bl neg, m) := rfl
@[simp] theorem isNon_tup : isNonO neg (.tup xs) .non m = some (.bl neg, m) := rfl
@[simp] theorem isNon_con : isNonO neg (.con xs) .non m = some (.bl neg, m) := rfl
@[simp] theorem addO_int : addO (.int i) (.int j) m = some (.int (i + j), m) := rfl
@[simp] theorem addO_tup : addO (.tup xs) (.tup ys) m = if xs.length + ys.length ≤ sizeLine then some (.tup (xs ++ ys), m) else none := rfl
@[simp] theorem addO_con : addO (.con xs) (.con ys) m = if xs.length + ys.length ≤ sizeLine then some (.con (xs ++ ys), m) else none := rfl
@[simp] theorem subO_int : subO (.int i) (.int j) m = some (.int (i - j), m) := rfl
@[simp] theorem mulO_int : mulO (.int i) (.int j) m = if (-(2 ^ 64) < i ∧ i < 2 ^ 64) ∨ (-(2 ^ 64) < j ∧ j < 2 ^ 64) then some (.int (i * j), m) else none := rfl
@[simp] theorem mulO_con : mulO (.con xs) (.int j) m = if -(2 ^ 63) ≤ j ∧ j < 2 ^ 63 ∧ xs.length * j.toNat ≤ sizeLine then some (.con (List.replicate j.toNat xs).flatten, m) else none := rfl
@[simp] theorem divO_int : divO (.int i) (.int j) m = if 0 < j ∧ j < 1073741824 then some (.int (i / j), m) else none := rfl
@[simp] theorem modO_int : modO (.int i) (.int j) m = if 0 < j then some (.int (i % j), m) else none := rfl
@[simp] theorem powO_int : powO (.int i) (.int j) m = if 0 ≤ j ∧ j ≤ 1000000 ∧ i.natAbs < 2 ^ 64 then some (.int (i ^ j.toNat), m) else none := rfl
@[simp] theorem ordO_int {p : Int → Int → Bool} {r : List Nat → List Nat → Bool} : ordO p r (.int i) (.int j) m = some (.bl (p i j), m) := rfl
@[simp] theorem lenO_tup : lenO [.tup xs] m = some (.int xs.length, m) := rfl
@[simp] theorem lenO_con : lenO [.con xs] m = some (.int xs.length, m) := rfl
@[simp] theorem listO_con : listO [.con xs] m = some (.con xs, m) := rfl
@[simp] theorem listO_tup : listO [.tup xs] m = some (.con xs, m) := rfl
@[simp] theorem tupleO_con : tupleO [.con xs] m = some (.tup xs, m) := rfl
@[simp] theorem tupleO_tup : tupleO [.tup xs] m = some (.tup xs, m) := rfl
@[simp] theorem intO_bl : intO [.bl q] m = some (.int (if q then 1 else 0), m) := rfl
@[simp] theorem intO_int : intO [.int i] m = some (.int i, m) := rfl
@[simp] theorem max2O_int : max2O [.int i, .int j] m = some (.int (if j > i then j else i), m) := rfl
@[simp] theorem min2O_int : min2O [.int i, .int j] m = some (.int (if j < i then j else i), m) := rfl
@[simp] theorem isO6_non : isO (tab6 a b c d e f) .non m = some a := rfl
@[simp] theorem isO6_bl : isO (tab6 a b c d e f) (.bl q) m = some b := rfl
@[simp] theorem isO6_int : isO (tab6 a b c d e f) (.int i) m = some c := rfl
@[simp] theorem isO6_str : isO (tab6 a b c d e f) (.str x) m = some d := rfl
@[simp] theorem isO6_tup : isO (tab6 a b c d e f) (.tup xs) m = some e := rfl
@[simp] theorem isO6_con : isO (tab6 a b c d e f) (.con xs) m = some f := rfl
@[simp] theorem items_tup : itemsM (.tup xs) m = .ok xs m := rfl
@[simp] theorem items_con : itemsM (.con xs) m = .ok xs m := rfl
@[simp] theorem srcSeq_tup : srcSeq (.tup xs) m = .ok (.fx xs) m := rfl
@[simp] theorem srcSeq_con : srcSeq (.con xs) m = .ok (.fx xs) m := rfl
@[simp] theorem srcEnum_tup : srcEnum (.tup xs) m = .ok (.fx (enumL 0 xs)) m := rfl
@[simp] theorem srcEnum_con : srcEnum (.con xs) m = .ok (.fx (enumL 0 xs)) m := rfl
@[simp] theorem cls_obj {fs : List (Str × MV)} : clsM m (.obj x fs) = some (x, fs) := rfl
@[simp] theorem slM_tup {lo hi : Option Int} : slM (.tup xs) lo hi m = .ok (.tup (cutM xs lo hi)) m := rfl
@[simp] theorem slM_con {lo hi : Option Int} : slM (.con xs) lo hi m = .ok (.con (cutM xs lo hi)) m := rfl
theorem cut_from {k : Nat} : cutM xs (some (k : Int)) none = xs.drop k := by
  unfold cutM
  rw [HT.sIx_nat, HT.sIx_none]
  by_cases h : k ≤ xs.length
  · rw [Nat.min_eq_left h]
    exact List.take_of_length_le (by rw [List.length_drop]; omega)
  · rw [Nat.min_eq_right (by omega), Nat.sub_self, List.take_zero, List.drop_of_length_le (by omega)]
theorem cut_to {k : Nat} : cutM xs none (some (k : Int)) = xs.take k := by
  unfold cutM
  rw [HT.sIx_nat, HT.sIx_none, List.drop_zero, Nat.sub_zero]
  by_cases h : k ≤ xs.length
  · rw [Nat.min_eq_left h]
  · rw [Nat.min_eq_right (by omega), List.take_of_length_le (Nat.le_refl _), List.take_of_length_le (by omega)]
theorem cut_most : cutM xs none (some (-1)) = xs.dropLast := by
  unfold cutM
  rw [HT.sIx_none, List.drop_zero, Nat.sub_zero]
  have e : HT.sIx xs.length xs.length (some (-1)) = xs.length - 1 := by
    show (if (-1 : Int) < 0 then ((-1 : Int) + (xs.length : Int)).toNat else min (-1 : Int).toNat xs.length) = _
    rw [if_pos (by decide)]
    omega
  rw [e, List.dropLast_eq_take]
@[simp] theorem ofSO_rt {u : MV} : ofSO (.rt u m) = .ok u m := rfl
@[simp] theorem ofSO_nx {u : ME} : ofSO (.nx u m) = .ok .non m := rfl
@[simp] theorem ofSO_exc {u : MX} {v : ME} : ofSO (.exc u v m) = .exc u m := rfl
theorem bindM_ok {n k : Nat} {g : List MV → List MV → List MV} {h : List MV → MM MV} {as bs : List MV} (h1 : as.length = n) (h2 : bs.length = k) : bindM n k g h as bs m = h (g as bs) m := by
  unfold bindM
  rw [if_pos ⟨h1, h2⟩]
theorem seq_nx {s t : SM} {e0 e1 : ME} {m1 : MH} (h : s e0 m = .nx e1 m1) : sSeq s t e0 m = t e1 m1 := by rw [sseq, h]
theorem seq_rt {s t : SM} {e0 : ME} {u : MV} {m1 : MH} (h : s e0 m = .rt u m1) : sSeq s t e0 m = .rt u m1 := by rw [sseq, h]
theorem seq_exc {s t : SM} {e0 e1 : ME} {u : MX} {m1 : MH} (h : s e0 m = .exc u e1 m1) : sSeq s t e0 m = .exc u e1 m1 := by rw [sseq, h]
end
theorem eqv_str {x y : Str} : PyData.eqv (.str x) (.str y) = (x == y) := by simp only [PyData.eqv]
theorem any_str {x : Str} : ∀ {ys : List Str}, ((ys.map PyData.str).any fun z => PyData.eqv z (.str x)) = ys.contains x
  | [] => rfl
  | y :: ys => by
    rw [List.map_cons, List.any_cons, any_str, eqv_str, List.contains_cons]
    congr 1
    by_cases h : y = x
    · rw [h]
    · rw [beq_eq_false_iff_ne.mpr h, beq_eq_false_iff_ne.mpr fun z => h z.symm]
def okS (x : Str) : Prop := PyData.canLay0 (.str x) = true
theorem lay_strs : ∀ {ys : List Str}, (∀ y ∈ ys, okS y) → PyData.canLayAll0 (ys.map .str) = true
  | [], _ => rfl
  | y :: ys, h => by
    rw [List.map_cons, PyData.canLayAll0, show PyData.canLay0 (.str y) = true from h y List.mem_cons_self, lay_strs fun z hz => h z (List.mem_cons_of_mem _ hz)]; rfl
theorem depth_strs : ∀ {ys : List Str}, PyData.depthAll (ys.map .str) = 0
  | [] => rfl
  | y :: ys => by rw [List.map_cons, PyData.depthAll, PyData.depth, depth_strs]; rfl
theorem mvDs_strs {ys : List Str} : mvDs (ys.map .str) = ys.map .str := by rw [mvDs_map, List.map_map]; rfl
@[simp] theorem new_get {α : Type} {m : List α} {o : α} : (m ++ [o])[m.length]? = some o := by rw [List.getElem?_append_right (Nat.le_refl _)]; simp
@[simp] theorem new_set {α : Type} {m : List α} {o p : α} : (m ++ [o]).set m.length p = m ++ [p] := by rw [List.set_append_right _ _ (Nat.le_refl _)]; simp
theorem old_get {α : Type} {m t : List α} {n : Nat} {o : α} (h : m[n]? = some o) : (m ++ t)[n]? = some o := by
  rw [List.getElem?_append_left (List.getElem?_eq_some_iff.mp h).1]; exact h
theorem rg_nat {L : Nat} (hL : L < 1000) : -(2 ^ 62) ≤ (L : Int) ∧ (L : Int) < 2 ^ 62 := by
  have e : (2 : Int) ^ 62 = 4611686018427387904 := by decide +kernel
  rw [e]
  omega
theorem irange_nat {f : EM} {e : ME} {m m1 : MH} {L : Nat} (h : f e m = .ok (.int L) m1) (hL : L < 1000) : iRange1 f e m = .ok (.fx (rngL 0 L)) m1 := by
  rw [irange1, h]
  exact if_pos (rg_nat hL)
/-! for's, comprehensions over a known walk: nothing of the walk's own is unfolded -/
theorem turnc2_run {g : GM} {t : ME → MM Bool} {src : ME → MM Src} {vs : List Nat} {turn : ME → MV → MM (List MV)} {e0 e1 : ME} {a : MV} {m m1 m2 : MH} {xs : List MV} (hg : g a e0 = some e1) (ht : t e1 m = .ok true m1) (hs : src e1 m1 = .ok (.fx xs) m2) : turnC2 g t src vs turn e0 a m = collL (turn (wipeM e1 vs)) xs m2 := by
  unfold turnC2
  rw [hg]
  simp only
  rw [ht]
  simp only
  rw [hs]
  rfl
theorem gforq_run {src : ME → MM Src} {g : GM} {b : GMd} {e : ME} {m m1 : MH} {xs : List MV} (hs : src e m = .ok (.fx xs) m1) : gForQ src g b e m = forLo g b xs e m1 := by
  unfold gForQ
  rw [hs]
  rfl
theorem sfor_run {src : ME → MM Src} {g : GM} {b : SM} {e : ME} {m m1 : MH} {xs : List MV} (hs : src e m = .ok (.fx xs) m1) : sFor src g b e m = forL g b xs e m1 := by
  rw [sfor, hs]
  rfl
end Mi
end

section
set_option Elab.async false
set_option linter.all false
set_option maxRecDepth 100000
set_option maxHeartbeats 4000000
/-! the mirrors of the text's defs (printed by gen.py) -/
namespace K55
open PySem Mi
def b_price_of : SM := (sRet (eApp (sumO) (aCons (eComp (iSeqM (eVar 0)) [3] (turnC (gNm 3) tYesM (eIf (tOf (eBin (lift2 (inO false)) (eBin (lift2 ixO) (eVar 3) (eC (.int 0))) (eTup (aCons (eC (.str "halt")) (aCons (eC (.str "settle")) (aCons (eC (.str "drain")) aNil)))))) (eVar 1) (eVar 2)))) aNil)))
def h_price_of : List MV → List MV → MM MV := bindM 3 0 (fun as _ => as) (runF 4 b_price_of)
theorem r_price_of {a0 a1 a2 : MV} {m : MH} : h_price_of [a0, a1, a2] [] m = ofSO (b_price_of [some a0, some a1, some a2, none] m) :=
  (bindM_ok (n := 3) (k := 0) (by rfl) (by rfl)).trans runF_eq
def b_Row_steps : SM := (sRet (eApp (listO) (aCons (eFld ["Row"] "own_steps" (eVar 0)) aNil)))
def h_Row_steps : List MV → List MV → MM MV := bindM 1 0 (fun as _ => as) (runF 1 b_Row_steps)
theorem r_Row_steps {a0 : MV} {m : MH} : h_Row_steps [a0] [] m = ofSO (b_Row_steps [some a0] m) :=
  (bindM_ok (n := 1) (k := 0) (by rfl) (by rfl)).trans runF_eq
def b_is_whole : SM := (sRet (eAndM (eIsi (tab6 false true true false false false) (eVar 0)) (eAndM (eNotM (eIsi (tab6 false true false false false false) (eVar 0))) (eChain (lift2 leO) (lift2 leO) (eVar 1) (eVar 0) (eVar 2)))))
def h_is_whole : List MV → List MV → MM MV := bindM 3 0 (fun as _ => as) (runF 3 b_is_whole)
theorem r_is_whole {a0 a1 a2 : MV} {m : MH} : h_is_whole [a0, a1, a2] [] m = ofSO (b_is_whole [some a0, some a1, some a2] m) :=
  (bindM_ok (n := 3) (k := 0) (by rfl) (by rfl)).trans runF_eq
def b_require_number : SM := (sIf (tNotM (tOf (eCall (fun as => h_is_whole as []) (aCons (eVar 0) (aCons (eC (.int 0)) (aCons (eVar 1) aNil)))))) (sRaise "InvalidNumber" "value" (eVar 0)) sNil)
def h_require_number : List MV → List MV → MM MV := bindM 2 0 (fun as _ => as) (runF 2 b_require_number)
theorem r_require_number {a0 a1 : MV} {m : MH} : h_require_number [a0, a1] [] m = ofSO (b_require_number [some a0, some a1] m) :=
  (bindM_ok (n := 2) (k := 0) (by rfl) (by rfl)).trans runF_eq
def b_require_prices_f0 : SM := (sExpr (eCall (fun as => h_require_number as []) (aCons (eVar 2) (aCons (eC (.int 1000)) aNil))))
def b_require_prices : SM := (sFor (iSeqM (eTup (aCons (eVar 0) (aCons (eVar 1) aNil)))) (gNm 2) b_require_prices_f0)
def h_require_prices : List MV → List MV → MM MV := bindM 2 0 (fun as _ => as) (runF 3 b_require_prices)
theorem r_require_prices {a0 a1 : MV} {m : MH} : h_require_prices [a0, a1] [] m = ofSO (b_require_prices [some a0, some a1, none] m) :=
  (bindM_ok (n := 2) (k := 0) (by rfl) (by rfl)).trans runF_eq
def b_price : SM := (sSeq (sExpr (eCall (fun as => h_require_prices as []) (aCons (eVar 1) (aCons (eVar 2) aNil)))) (sRet (eCall (fun as => h_price_of as []) (aCons (eMeth "steps" (("Row", fun as => h_Row_steps as []) :: []) (eVar 0) aNil) (aCons (eVar 1) (aCons (eVar 2) aNil))))))
def h_price_wait_plain : List MV → List MV → MM MV := bindM 1 2 (fun as bs => as ++ bs) (runF 3 b_price)
theorem r_price_wait_plain {a0 k0 k1 : MV} {m : MH} : h_price_wait_plain [a0] [k0, k1] m = ofSO (b_price [some a0, some k0, some k1] m) :=
  (bindM_ok (n := 1) (k := 2) (by rfl) (by rfl)).trans runF_eq
def h_price_wait : List MV → List MV → MM MV := bindM 1 1 (fun as bs => as ++ bs ++ ([MV.int 1] : List MV)) (runF 3 b_price)
theorem r_price_wait {a0 k0 : MV} {m : MH} : h_price_wait [a0] [k0] m = ofSO (b_price [some a0, some k0, some (MV.int 1)] m) :=
  (bindM_ok (n := 1) (k := 1) (by rfl) (by rfl)).trans runF_eq
def h_price : List MV → List MV → MM MV := bindM 1 0 (fun as bs => as ++ ([MV.int 3, MV.int 1] : List MV)) (runF 3 b_price)
theorem r_price {a0 : MV} {m : MH} : h_price [a0] [] m = ofSO (b_price [some a0, some (MV.int 3), some (MV.int 1)] m) :=
  (bindM_ok (n := 1) (k := 0) (by rfl) (by rfl)).trans runF_eq
def h_price_plain : List MV → List MV → MM MV := bindM 1 1 (fun as bs => as ++ ([MV.int 3] : List MV) ++ bs) (runF 3 b_price)
theorem r_price_plain {a0 k0 : MV} {m : MH} : h_price_plain [a0] [k0] m = ofSO (b_price [some a0, some (MV.int 3), some k0] m) :=
  (bindM_ok (n := 1) (k := 1) (by rfl) (by rfl)).trans runF_eq
def b__law_price : SM := (sTry (sRet (eCallK h_price_wait_plain (aCons (eVar 0) aNil) (aCons (eVar 1) (aCons (eVar 2) aNil)))) (⟨("InvalidStep", false) :: ("InvalidStock", false) :: ("InvalidNumber", true) :: [], some 3, (hLst (hCons (hC (.str "none")) (hCons (hRepr (hFld ["InvalidStock", "InvalidNumber"] "value")) hNil)))⟩ :: []))
def h__law_price : List MV → List MV → MM MV := bindM 3 0 (fun as _ => as) (runF 4 b__law_price)
theorem r__law_price {a0 a1 a2 : MV} {m : MH} : h__law_price [a0, a1, a2] [] m = ofSO (b__law_price [some a0, some a1, some a2, none] m) :=
  (bindM_ok (n := 3) (k := 0) (by rfl) (by rfl)).trans runF_eq
def b_branches : SM := (sSeq (sIf (tOf (eBin (lift2 (Mi.eqO false)) (eBin (lift2 ixO) (eVar 0) (eC (.int 0))) (eC (.str "test")))) (sRet (eTup (aCons (eBin (lift2 ixO) (eVar 0) (eC (.int 2))) (aCons (eBin (lift2 ixO) (eVar 0) (eC (.int 3))) aNil)))) sNil) (sSeq (sIf (tOf (eBin (lift2 (Mi.eqO false)) (eBin (lift2 ixO) (eVar 0) (eC (.int 0))) (eC (.str "choose")))) (sRet (eTup (aCons (eBin (lift2 ixO) (eVar 0) (eC (.int 1))) (aCons (eBin (lift2 ixO) (eVar 0) (eC (.int 2))) aNil)))) sNil) (sRet (eTup (aCons (eTup aNil) (aCons (eTup aNil) aNil))))))
def h_branches : List MV → List MV → MM MV := bindM 1 0 (fun as _ => as) (runF 1 b_branches)
theorem r_branches {a0 : MV} {m : MH} : h_branches [a0] [] m = ofSO (b_branches [some a0] m) :=
  (bindM_ok (n := 1) (k := 0) (by rfl) (by rfl)).trans runF_eq
def b_is_wrong : SM := (sSeq (sIf (tOf (eBin (lift2 (Mi.eqO false)) (eBin (lift2 ixO) (eVar 0) (eC (.int 0))) (eC (.str "take")))) (sRet (eOrM (eBin (lift2 (inO false)) (eBin (lift2 ixO) (eVar 0) (eC (.int 1))) (eVar 1)) (eBin (lift2 (inO true)) (eTup (aCons (eC (.str "give")) (aCons (eBin (lift2 ixO) (eVar 0) (eC (.int 1))) aNil))) (eVar 3)))) sNil) (sSeq (sIf (tOf (eBin (lift2 (Mi.eqO false)) (eBin (lift2 ixO) (eVar 0) (eC (.int 0))) (eC (.str "give")))) (sRet (eOrM (eBin (lift2 (Mi.eqO false)) (eVar 2) (eTup aNil)) (eBin (lift2 (Mi.eqO true)) (eBin (lift2 ixO) (eVar 2) (eNeg (eC (.int 1)))) (eBin (lift2 ixO) (eVar 0) (eC (.int 1)))))) sNil) (sRet (eAndM (eBin (lift2 (Mi.eqO false)) (eBin (lift2 ixO) (eVar 0) (eC (.int 0))) (eC (.str "piece"))) (eBin (lift2 (inO false)) (eBin (lift2 ixO) (eVar 0) (eC (.int 1))) (eVar 1))))))
def h_is_wrong : List MV → List MV → MM MV := bindM 4 0 (fun as _ => as) (runF 4 b_is_wrong)
theorem r_is_wrong {a0 a1 a2 a3 : MV} {m : MH} : h_is_wrong [a0, a1, a2, a3] [] m = ofSO (b_is_wrong [some a0, some a1, some a2, some a3] m) :=
  (bindM_ok (n := 4) (k := 0) (by rfl) (by rfl)).trans runF_eq
def b_wrongs_f0 (rec : List MV → List MV → MM MV) : SM := (sExpr (eMt "list" extendO (eVar 2) (aCons (eCall (fun as => rec as []) (aCons (eVar 6) (aCons (eBin (lift2 addO) (eVar 1) (eVar 3)) aNil))) aNil)))
def b_wrongs_f1 (rec : List MV → List MV → MM MV) : SM := (sSeq (sExpr (eMt "list" appendO (eVar 2) (aCons (eCall (fun as => h_is_wrong as []) (aCons (eVar 5) (aCons (eBin (lift2 addO) (eVar 1) (eVar 3)) (aCons (eVar 3) (aCons (eSl (eVar 0) (oSome (eBin (lift2 addO) (eVar 4) (eC (.int 1)))) oNone) aNil))))) aNil))) (sSeq (sIf (tOf (eBin (lift2 (Mi.eqO false)) (eBin (lift2 ixO) (eVar 5) (eC (.int 0))) (eC (.str "take")))) (sSet 3 (eBin (lift2 addO) (eVar 3) (eTup (aCons (eBin (lift2 ixO) (eVar 5) (eC (.int 1))) aNil)))) sNil) (sSeq (sIf (tOf (eBin (lift2 (Mi.eqO false)) (eBin (lift2 ixO) (eVar 5) (eC (.int 0))) (eC (.str "give")))) (sSet 3 (eSl (eVar 3) oNone (oSome (eNeg (eC (.int 1)))))) sNil) (sFor (iSeqM (eCall (fun as => h_branches as []) (aCons (eVar 5) aNil))) (gNm 6) (b_wrongs_f0 rec)))))
def b_wrongs (rec : List MV → List MV → MM MV) : SM := (sSeq (sSet 2 (eLst aNil)) (sSeq (sSet 3 (eTup aNil)) (sSeq (sFor (iEnumM (eVar 0)) (gTp (gsCons (gNm 4) (gsCons (gNm 5) gsNil))) (b_wrongs_f1 rec)) (sRet (eLock (eVar 2))))))
def h_wrongs : Nat → List MV → List MV → MM MV
  | 0 => fun _ _ _ => .bad
  | n + 1 => bindM 2 0 (fun as _ => as) (runF 7 (b_wrongs (h_wrongs n)))
theorem r_wrongs {a0 a1 : MV} {n : Nat} {m : MH} : h_wrongs (n + 1) [a0, a1] [] m = ofSO ((b_wrongs (h_wrongs n)) [some a0, some a1, none, none, none, none, none] m) :=
  (bindM_ok (n := 2) (k := 0) (by rfl) (by rfl)).trans runF_eq
def b_lock_fault_f0 : SM := (sIf (tOf (eVar 2)) (sRet (eVar 1)) sNil)
def b_lock_fault : SM := (sSeq (sFor (iEnumM (eCall (fun as => (h_wrongs 2) as []) (aCons (eVar 0) (aCons (eTup aNil) aNil)))) (gTp (gsCons (gNm 1) (gsCons (gNm 2) gsNil))) b_lock_fault_f0) (sRet (eC .non)))
def h_lock_fault : List MV → List MV → MM MV := bindM 1 0 (fun as _ => as) (runF 3 b_lock_fault)
theorem r_lock_fault {a0 : MV} {m : MH} : h_lock_fault [a0] [] m = ofSO (b_lock_fault [some a0, none, none] m) :=
  (bindM_ok (n := 1) (k := 0) (by rfl) (by rfl)).trans runF_eq
def b_is_balanced : SM := (sRet (eBin (lift2 (isNonO false)) (eCall (fun as => h_lock_fault as []) (aCons (eApp (tupleO) (aCons (eVar 0) aNil)) aNil)) (eC .non)))
def h_is_balanced : List MV → List MV → MM MV := bindM 1 0 (fun as _ => as) (runF 1 b_is_balanced)
theorem r_is_balanced {a0 : MV} {m : MH} : h_is_balanced [a0] [] m = ofSO (b_is_balanced [some a0] m) :=
  (bindM_ok (n := 1) (k := 0) (by rfl) (by rfl)).trans runF_eq
def b_is_name : SM := (sSeq (sIf (tOrM (tNotM (tOf (eIsi (tab6 false false false true false false) (eVar 0)))) (tNotM (tOf (eChain (lift2 leO) (lift2 leO) (eC (.int 1)) (eApp (lenO) (aCons (eVar 0) aNil)) (eC (.int 8)))))) (sRet (eC (.bl false))) sNil) (sRet (eApp (allO false) (aCons (eComp (iStrM (eVar 0)) [1] (turnC (gNm 1) tYesM (eBin (lift2 (inO false)) (eVar 1) (eC (.str "abcdefghijklmnopqrstuvwxyz"))))) aNil))))
def h_is_name : List MV → List MV → MM MV := bindM 1 0 (fun as _ => as) (runF 2 b_is_name)
theorem r_is_name {a0 : MV} {m : MH} : h_is_name [a0] [] m = ofSO (b_is_name [some a0, none] m) :=
  (bindM_ok (n := 1) (k := 0) (by rfl) (by rfl)).trans runF_eq
def b_is_step : SM := (sRet (eAndM (eIsi (tab6 false false false false true false) (eVar 0)) (eAndM (eBin (lift2 (Mi.eqO false)) (eApp (lenO) (aCons (eVar 0) aNil)) (eC (.int 2))) (eAndM (eBin (lift2 (inO false)) (eBin (lift2 ixO) (eVar 0) (eC (.int 0))) (eC (.tup ((["cancel", "bar", "halt", "settle", "close", "drain", "set", "clear", "take", "give"] : List Str).map MV.str)))) (eCall (fun as => h_is_name as []) (aCons (eBin (lift2 ixO) (eVar 0) (eC (.int 1))) aNil))))))
def h_is_step : List MV → List MV → MM MV := bindM 1 0 (fun as _ => as) (runF 1 b_is_step)
theorem r_is_step {a0 : MV} {m : MH} : h_is_step [a0] [] m = ofSO (b_is_step [some a0] m) :=
  (bindM_ok (n := 1) (k := 0) (by rfl) (by rfl)).trans runF_eq
def b_require_steps_f0 : SM := (sIf (tNotM (tOf (eCall (fun as => h_is_step as []) (aCons (eVar 2) aNil)))) (sRaise "InvalidStep" "index" (eVar 1)) sNil)
def b_require_steps : SM := (sSeq (sFor (iEnumM (eVar 0)) (gTp (gsCons (gNm 1) (gsCons (gNm 2) gsNil))) b_require_steps_f0) (sSeq (sIf (tOf (eBin (lift2 gtO) (eApp (lenO) (aCons (eVar 0) aNil)) (eC (.int 8)))) (sRaise "InvalidStep" "index" (eC .non)) sNil) (sSeq (sSet 1 (eCall (fun as => h_lock_fault as []) (aCons (eVar 0) aNil))) (sIf (tOf (eBin (lift2 (isNonO true)) (eVar 1) (eC .non))) (sRaise "InvalidStep" "index" (eVar 1)) sNil))))
def h_require_steps : List MV → List MV → MM MV := bindM 1 0 (fun as _ => as) (runF 3 b_require_steps)
theorem r_require_steps {a0 : MV} {m : MH} : h_require_steps [a0] [] m = ofSO (b_require_steps [some a0, none, none] m) :=
  (bindM_ok (n := 1) (k := 0) (by rfl) (by rfl)).trans runF_eq
def b_Row___init__ : SM := (sSeq (sExpr (eCall (fun as => h_require_steps as []) (aCons (eVar 1) aNil))) (sSetF ["Row"] "own_steps" (eVar 1) (eVar 0)))
def h_Row___init__ : List MV → List MV → MM MV := starM 1 (runF 2 b_Row___init__)
def b_require_stock : SM := (sSeq (sIf (tOrM (tNotM (tOf (eIsi (tab6 false false false false false true) (eVar 0)))) (tNotM (tOf (eChain (lift2 leO) (lift2 leO) (eC (.int 1)) (eApp (lenO) (aCons (eVar 0) aNil)) (eC (.int 6)))))) (sRaise "InvalidStock" "value" (eVar 0)) sNil) (sIf (tOrM (tNotM (tOf (eApp (allO false) (aCons (eComp (iSeqM (eVar 0)) [1] (turnC (gNm 1) tYesM (eCall (fun as => h_is_step as []) (aCons (eVar 1) aNil)))) aNil)))) (tOf (eBin (lift2 (Mi.eqO true)) (eLenSet (eVar 0)) (eApp (lenO) (aCons (eVar 0) aNil))))) (sRaise "InvalidStock" "value" (eVar 0)) sNil))
def h_require_stock : List MV → List MV → MM MV := bindM 1 0 (fun as _ => as) (runF 2 b_require_stock)
theorem r_require_stock {a0 : MV} {m : MH} : h_require_stock [a0] [] m = ofSO (b_require_stock [some a0, none] m) :=
  (bindM_ok (n := 1) (k := 0) (by rfl) (by rfl)).trans runF_eq
def b_rows_of_f0 : GMd := (gSeqQ (gPl (sSet 5 (eComp (iSeqM (eVar 4)) [6] (turnC (gNm 6) tYesM (eBin (lift2 ixO) (eVar 0) (eVar 6)))))) (gSeqQ (gIfQ (tOf (eCall (fun as => h_is_balanced as []) (aCons (eVar 5) aNil))) (gSeqQ (gYieldQ (eCallS (hMake "Row" (fun as => h_Row___init__ as [])) (eVar 5))) gNilQ) gNilQ) gNilQ))
def b_rows_of_f1 : GMd := (gSeqQ (gForQ (iSeqM (eVar 2)) (gNm 4) b_rows_of_f0) (gSeqQ (gPl (sSet 2 (eComp (iSeqM (eVar 2)) [4, 6] (turnC2 (gNm 4) tYesM (iRange1 (eApp (lenO) (aCons (eVar 0) aNil))) [6] (turnC (gNm 6) (tOf (eBin (lift2 (inO true)) (eVar 6) (eVar 4))) (eTup (aStar (eVar 4) (aCons (eVar 6) aNil)))))))) gNilQ))
def b_rows_of : GMd := (gSeqQ (gPl (sExpr (eCall (fun as => h_require_stock as []) (aCons (eVar 0) aNil)))) (gSeqQ (gPl (sExpr (eCall (fun as => h_require_number as []) (aCons (eVar 1) (aCons (eC (.int 6)) aNil))))) (gSeqQ (gPl (sSet 2 (eLstC (aCons (eTup aNil) aNil)))) (gSeqQ (gForQ (iRange1 (eBin (lift2 addO) (eVar 1) (eC (.int 1)))) (gNm 3) b_rows_of_f1) gNilQ))))
def h_rows_of : List MV → MH → GO := fun as m => b_rows_of (startM 7 as) m
def b__law_rows : SM := (sTry (sRet (eLcG h_rows_of (tellM "Row" "own_steps" "steps") ["InvalidStock", "InvalidNumber", "InvalidStep"] 2 (aCons (eVar 0) (aCons (eVar 1) aNil)))) (⟨("InvalidStep", false) :: ("InvalidStock", true) :: ("InvalidNumber", false) :: [], some 3, (hLst (hCons (hC (.str "stock")) (hCons (hRepr (hFld ["InvalidStock", "InvalidNumber"] "value")) hNil)))⟩ :: ⟨("InvalidStep", false) :: ("InvalidStock", false) :: ("InvalidNumber", true) :: [], some 3, (hLst (hCons (hC (.str "none")) (hCons (hRepr (hFld ["InvalidStock", "InvalidNumber"] "value")) hNil)))⟩ :: []))
def h__law_rows : List MV → List MV → MM MV := bindM 2 0 (fun as _ => as) (runF 4 b__law_rows)
theorem r__law_rows {a0 a1 : MV} {m : MH} : h__law_rows [a0, a1] [] m = ofSO (b__law_rows [some a0, some a1, none, none] m) :=
  (bindM_ok (n := 2) (k := 0) (by rfl) (by rfl)).trans runF_eq
def b__law_refused_f0 : SM := (sIf (tOrM (tOf (eBin (lift2 (Mi.eqO true)) (eCall (fun as => h__law_price as []) (aCons (eVar 1) (aCons (eVar 3) (aCons (eNeg (eC (.int 5))) aNil)))) (eLstC (aCons (eC (.str "none")) (aCons (eApp (reprO) (aCons (eVar 3) aNil)) aNil))))) (tOf (eBin (lift2 (Mi.eqO true)) (eCall (fun as => h__law_price as []) (aCons (eVar 1) (aCons (eC (.int 0)) (aCons (eVar 3) aNil)))) (eLstC (aCons (eC (.str "none")) (aCons (eApp (reprO) (aCons (eVar 3) aNil)) aNil)))))) (sRet (eC (.bl false))) sNil)
def b__law_refused_f1 : SM := (sIf (tOf (eBin (lift2 (Mi.eqO true)) (eCall (fun as => h__law_rows as []) (aCons (eVar 0) (aCons (eVar 3) aNil))) (eLstC (aCons (eC (.str "none")) (aCons (eApp (reprO) (aCons (eVar 3) aNil)) aNil))))) (sRet (eC (.bl false))) sNil)
def b__law_refused_f2 : SM := (sIf (tOf (eBin (lift2 (Mi.eqO true)) (eCall (fun as => h__law_rows as []) (aCons (eVar 3) (aCons (eNeg (eC (.int 1))) aNil))) (eLstC (aCons (eC (.str "stock")) (aCons (eApp (reprO) (aCons (eVar 3) aNil)) aNil))))) (sRet (eC (.bl false))) sNil)
def b__law_refused : SM := (sSeq (sSet 2 (eLstC (aCons (eC .non) (aCons (eLstC aNil) (aCons (eApp (tupleO) (aCons (eVar 0) aNil)) (aCons (eBin (lift2 addO) (eVar 0) (eSl (eVar 0) oNone (oSome (eC (.int 1))))) (aCons (eLstC (aCons (eC .non) aNil)) (aCons (eBin (lift2 addO) (eSl (eVar 0) oNone (oSome (eC (.int 5)))) (eLstC (aCons (eTup (aCons (eC (.str "use")) aNil)) aNil))) (aCons (eLstC (aCons (eC (.str "bar")) aNil)) aNil))))))))) (sSeq (sFor (iSeqM (eBin (lift2 addO) (eVar 2) (eLstC (aCons (eLstC (aCons (eApp (listO) (aCons (eBin (lift2 ixO) (eVar 0) (eC (.int 0))) aNil)) aNil)) aNil)))) (gNm 3) b__law_refused_f2) (sSeq (sSet 4 (eComp (iSeqM (eLstC (aCons (eC (.str "a")) (aCons (eC (.str "b")) (aCons (eC (.str "c")) (aCons (eC (.str "d")) (aCons (eC (.str "e")) (aCons (eC (.str "f")) (aCons (eC (.str "g")) aNil))))))))) [5] (turnC (gNm 5) tYesM (eTup (aCons (eC (.str "bar")) (aCons (eVar 5) aNil)))))) (sSeq (sIf (tOrM (tOf (eBin (lift2 (Mi.eqO true)) (eCall (fun as => h__law_rows as []) (aCons (eVar 4) (aCons (eC (.int 0)) aNil))) (eLstC (aCons (eC (.str "stock")) (aCons (eApp (reprO) (aCons (eVar 4) aNil)) aNil))))) (tOf (eBin (lift2 (Mi.eqO true)) (eApp (lenO) (aCons (eCall (fun as => h__law_rows as []) (aCons (eSl (eVar 4) oNone (oSome (eC (.int 6)))) (aCons (eC (.int 1)) aNil))) aNil)) (eC (.int 7))))) (sRet (eC (.bl false))) sNil) (sSeq (sFor (iSeqM (eLstC (aCons (eNeg (eC (.int 1))) (aCons (eC (.int 7)) (aCons (eC (.bl true)) (aCons (eC .non) (aCons (eC (.str "1")) aNil))))))) (gNm 3) b__law_refused_f1) (sSeq (sFor (iSeqM (eLstC (aCons (eNeg (eC (.int 1))) (aCons (eC (.int 1001)) (aCons (eC (.bl true)) (aCons (eC .non) (aCons (eC (.str "1")) (aCons (eBin (lift2 powO) (eC (.int 10)) (eC (.int 30))) aNil)))))))) (gNm 3) b__law_refused_f0) (sRet (eC (.bl true)))))))))
def h__law_refused : List MV → List MV → MM MV := bindM 2 0 (fun as _ => as) (runF 6 b__law_refused)
theorem r__law_refused {a0 a1 : MV} {m : MH} : h__law_refused [a0, a1] [] m = ofSO (b__law_refused [some a0, some a1, none, none, none, none] m) :=
  (bindM_ok (n := 2) (k := 0) (by rfl) (by rfl)).trans runF_eq
def b_Row_parts_of : SM := (sSeq (sIf (tOf (eIsi [(.o "Row", true), (.b "NoneType", false), (.b "bool", false), (.b "int", false), (.b "str", false), (.b "tuple", false), (.b "list", false)] (eVar 1))) (sRet (eFld ["Row"] "own_steps" (eVar 1))) sNil) (sSeq (sIf (tNotM (tOf (eIsi (tab6 false false false false true false) (eVar 1)))) (sRaise "InvalidStep" "index" (eC .non)) sNil) (sRet (eVar 1))))
def h_Row_parts_of : List MV → List MV → MM MV := bindM 2 0 (fun as _ => as) (runF 2 b_Row_parts_of)
theorem r_Row_parts_of {a0 a1 : MV} {m : MH} : h_Row_parts_of [a0, a1] [] m = ofSO (b_Row_parts_of [some a0, some a1] m) :=
  (bindM_ok (n := 2) (k := 0) (by rfl) (by rfl)).trans runF_eq
def b_Row___add__ : SM := (sSeq (sSet 2 (eBin (lift2 addO) (eFld ["Row"] "own_steps" (eVar 0)) (eMeth "parts_of" (("Row", fun as => h_Row_parts_of as []) :: []) (eVar 0) (aCons (eVar 1) aNil)))) (sRet (eCallS (hMake "Row" (fun as => h_Row___init__ as [])) (eVar 2))))
def h_Row___add__ : List MV → List MV → MM MV := bindM 2 0 (fun as _ => as) (runF 3 b_Row___add__)
theorem r_Row___add__ {a0 a1 : MV} {m : MH} : h_Row___add__ [a0, a1] [] m = ofSO (b_Row___add__ [some a0, some a1, none] m) :=
  (bindM_ok (n := 2) (k := 0) (by rfl) (by rfl)).trans runF_eq
def b__law_balanced_f0 : SM := (sSeq (sIf (tAndM (tOf (eBin (lift2 (Mi.eqO false)) (eVar 3) (eC (.str "take")))) (tOrM (tOf (eBin (lift2 (inO false)) (eVar 4) (eVar 1))) (tOf (eBin (lift2 (inO true)) (eTup (aCons (eC (.str "give")) (aCons (eVar 4) aNil))) (eSl (eVar 0) (oSome (eBin (lift2 addO) (eVar 2) (eC (.int 1)))) oNone))))) (sRet (eC (.bl false))) sNil) (sSeq (sIf (tAndM (tOf (eBin (lift2 (Mi.eqO false)) (eVar 3) (eC (.str "give")))) (tOrM (tOf (eBin (lift2 (Mi.eqO false)) (eVar 1) (eLstC aNil))) (tOf (eBin (lift2 (Mi.eqO true)) (eBin (lift2 ixO) (eVar 1) (eNeg (eC (.int 1)))) (eVar 4))))) (sRet (eC (.bl false))) sNil) (sSet 1 (eIf (tOf (eBin (lift2 (Mi.eqO false)) (eVar 3) (eC (.str "take")))) (eBin (lift2 addO) (eVar 1) (eLstC (aCons (eVar 4) aNil))) (eIf (tOf (eBin (lift2 (Mi.eqO false)) (eVar 3) (eC (.str "give")))) (eSl (eVar 1) oNone (oSome (eNeg (eC (.int 1))))) (eVar 1))))))
def b__law_balanced : SM := (sSeq (sSet 1 (eLstC aNil)) (sSeq (sFor (iEnumM (eVar 0)) (gTp (gsCons (gNm 2) (gsCons (gTp (gsCons (gNm 3) (gsCons (gNm 4) gsNil))) gsNil))) b__law_balanced_f0) (sRet (eC (.bl true)))))
def h__law_balanced : List MV → List MV → MM MV := bindM 1 0 (fun as _ => as) (runF 5 b__law_balanced)
theorem r__law_balanced {a0 : MV} {m : MH} : h__law_balanced [a0] [] m = ofSO (b__law_balanced [some a0, none, none, none, none] m) :=
  (bindM_ok (n := 1) (k := 0) (by rfl) (by rfl)).trans runF_eq
def b__law_listed_f0 : SM := (sSet 5 (eBin (lift2 addO) (eVar 5) (eComp (iSeqM (eVar 0)) [7] (turnC (gNm 7) (tOf (eBin (lift2 (inO true)) (eVar 7) (eVar 6))) (eBin (lift2 addO) (eVar 6) (eLstC (aCons (eVar 7) aNil)))))))
def b__law_listed_f1 : SM := (sSeq (sSet 5 (eLstC aNil)) (sSeq (sFor (iSeqM (eVar 2)) (gNm 6) b__law_listed_f0) (sSeq (sSet 2 (eVar 5)) (sSet 3 (eBin (lift2 addO) (eVar 3) (eVar 2))))))
def b__law_listed : SM := (sSeq (sPar 2 3 (aCons (eLstC (aCons (eLstC aNil) aNil)) (aCons (eLstC (aCons (eLstC aNil) aNil)) aNil))) (sSeq (sFor (iRange1 (eVar 1)) (gNm 4) b__law_listed_f1) (sRet (eComp (iSeqM (eVar 3)) [6] (turnC (gNm 6) (tOf (eCall (fun as => h__law_balanced as []) (aCons (eVar 6) aNil))) (eVar 6))))))
def h__law_listed : List MV → List MV → MM MV := bindM 2 0 (fun as _ => as) (runF 8 b__law_listed)
theorem r__law_listed {a0 a1 : MV} {m : MH} : h__law_listed [a0, a1] [] m = ofSO (b__law_listed [some a0, some a1, none, none, none, none, none, none] m) :=
  (bindM_ok (n := 2) (k := 0) (by rfl) (by rfl)).trans runF_eq
def b__law_draw : SM := (sSeq (sSet 2 (eBin (lift2 ixO) (eVar 0) (eC (.int 1)))) (sSeq (sSetIx (eBin (lift2 addO) (eVar 2) (eC (.int 1))) (eVar 0) (eC (.int 1))) (sRet (eIf (tOf (eBin (lift2 ltO) (eVar 2) (eApp (lenO) (aCons (eBin (lift2 ixO) (eVar 0) (eC (.int 0))) aNil)))) (eBin (lift2 modO) (eApp (intO) (aCons (eBin (lift2 ixO) (eBin (lift2 ixO) (eVar 0) (eC (.int 0))) (eVar 2)) aNil)) (eVar 1)) (eC (.int 0))))))
def h__law_draw : List MV → List MV → MM MV := bindM 2 0 (fun as _ => as) (runF 3 b__law_draw)
theorem r__law_draw {a0 a1 : MV} {m : MH} : h__law_draw [a0, a1] [] m = ofSO (b__law_draw [some a0, some a1, none] m) :=
  (bindM_ok (n := 2) (k := 0) (by rfl) (by rfl)).trans runF_eq
def b__law_pick : SM := (sRet (eBin (lift2 ixO) (eVar 1) (eCall (fun as => h__law_draw as []) (aCons (eVar 0) (aCons (eApp (lenO) (aCons (eVar 1) aNil)) aNil)))))
def h__law_pick : List MV → List MV → MM MV := bindM 2 0 (fun as _ => as) (runF 2 b__law_pick)
theorem r__law_pick {a0 a1 : MV} {m : MH} : h__law_pick [a0, a1] [] m = ofSO (b__law_pick [some a0, some a1] m) :=
  (bindM_ok (n := 2) (k := 0) (by rfl) (by rfl)).trans runF_eq
def b__law_drawn_stock_f0 : SM := (sSeq (sSet 4 (eTup (aCons (eCall (fun as => h__law_pick as []) (aCons (eVar 0) (aCons (eVar 1) aNil))) (aCons (eCall (fun as => h__law_pick as []) (aCons (eVar 0) (aCons (eLstC (aCons (eC (.str "a")) (aCons (eC (.str "b")) (aCons (eC (.str "ab")) aNil)))) aNil))) aNil)))) (sSet 2 (eBin (lift2 addO) (eVar 2) (eBin (lift2 mulO) (eLstC (aCons (eVar 4) aNil)) (eApp (intO) (aCons (eBin (lift2 (inO true)) (eVar 4) (eVar 2)) aNil))))))
def b__law_drawn_stock : SM := (sSeq (sSet 1 (eLstC (aCons (eC (.str "cancel")) (aCons (eC (.str "bar")) (aCons (eC (.str "halt")) (aCons (eC (.str "settle")) (aCons (eC (.str "close")) (aCons (eC (.str "drain")) (aCons (eC (.str "set")) (aCons (eC (.str "clear")) (aCons (eC (.str "take")) (aCons (eC (.str "give")) (aCons (eC (.str "take")) (aCons (eC (.str "give")) aNil)))))))))))))) (sSeq (sSet 2 (eLstC aNil)) (sSeq (sFor (iRange1 (eBin (lift2 addO) (eC (.int 1)) (eCall (fun as => h__law_draw as []) (aCons (eVar 0) (aCons (eC (.int 6)) aNil))))) (gNm 3) b__law_drawn_stock_f0) (sSeq (sIf (tAndM (tOf (eBin (lift2 (Mi.eqO false)) (eCall (fun as => h__law_draw as []) (aCons (eVar 0) (aCons (eC (.int 3)) aNil))) (eC (.int 0)))) (tAndM (tOf (eBin (lift2 ltO) (eApp (lenO) (aCons (eVar 2) aNil)) (eC (.int 5)))) (tOf (eBin (lift2 (inO true)) (eTup (aCons (eC (.str "take")) (aCons (eC (.str "l")) aNil))) (eVar 2))))) (sSet 2 (eBin (lift2 addO) (eBin (lift2 addO) (eLstC (aCons (eTup (aCons (eC (.str "give")) (aCons (eC (.str "l")) aNil))) aNil)) (eVar 2)) (eLstC (aCons (eTup (aCons (eC (.str "take")) (aCons (eC (.str "l")) aNil))) aNil)))) sNil) (sRet (eVar 2))))))
def h__law_drawn_stock : List MV → List MV → MM MV := bindM 1 0 (fun as _ => as) (runF 5 b__law_drawn_stock)
theorem r__law_drawn_stock {a0 : MV} {m : MH} : h__law_drawn_stock [a0] [] m = ofSO (b__law_drawn_stock [some a0, none, none, none, none] m) :=
  (bindM_ok (n := 1) (k := 0) (by rfl) (by rfl)).trans runF_eq
def b__law_numbers_f0 : SM := (sIf (tAndM (tOf (eBin (lift2 geO) (eVar 3) (eBin (lift2 powO) (eC (.int 10)) (eC (.int 18))))) (tOf (eBin (lift2 gtO) (eVar 4) (eC (.int 0))))) (sSeq (sExpr (eMt "list" appendO (eVar 5) (aCons (eBin (lift2 modO) (eVar 4) (eBin (lift2 ixO) (eVar 2) (eVar 6))) aNil))) (sSet 4 (eBin (lift2 divO) (eVar 4) (eBin (lift2 ixO) (eVar 2) (eVar 6))))) (sSeq (sSet 7 (eBin (lift2 modO) (eBin (lift2 powO) (eBin (lift2 addO) (eBin (lift2 addO) (eBin (lift2 modO) (eVar 3) (eC (.int 2147483629))) (eBin (lift2 mulO) (eC (.int 7919)) (eVar 1))) (eC (.int 1))) (eC (.int 3))) (eC (.int 2147483647)))) (sSeq (sSet 7 (eBin (lift2 modO) (eBin (lift2 mulO) (eBin (lift2 addO) (eVar 7) (eBin (lift2 mulO) (eC (.int 104729)) (eBin (lift2 addO) (eVar 6) (eC (.int 1))))) (eBin (lift2 addO) (eVar 6) (eC (.int 3)))) (eC (.int 2147483629)))) (sSeq (sSet 7 (eBin (lift2 modO) (eBin (lift2 mulO) (eBin (lift2 modO) (eBin (lift2 powO) (eVar 7) (eC (.int 5))) (eC (.int 2147483647))) (eC (.int 48271))) (eC (.int 2147483629)))) (sExpr (eMt "list" appendO (eVar 5) (aCons (eBin (lift2 modO) (eBin (lift2 divO) (eVar 7) (eC (.int 16))) (eBin (lift2 ixO) (eVar 2) (eVar 6))) aNil)))))))
def b__law_numbers : SM := (sSeq (sSet 3 (eApp (max2O) (aCons (eVar 0) (aCons (eBin (lift2 subO) (eNeg (eC (.int 1))) (eVar 0)) aNil)))) (sSeq (sSet 4 (eVar 3)) (sSeq (sSet 5 (eLst aNil)) (sSeq (sFor (iRange1 (eApp (lenO) (aCons (eVar 2) aNil))) (gNm 6) b__law_numbers_f0) (sRet (eLock (eVar 5)))))))
def h__law_numbers : List MV → List MV → MM MV := bindM 3 0 (fun as _ => as) (runF 8 b__law_numbers)
theorem r__law_numbers {a0 a1 a2 : MV} {m : MH} : h__law_numbers [a0, a1, a2] [] m = ofSO (b__law_numbers [some a0, some a1, some a2, none, none, none, none, none] m) :=
  (bindM_ok (n := 3) (k := 0) (by rfl) (by rfl)).trans runF_eq
def b__law_pool : SM := (sRet (eLst (aCons (eCall (fun as => h__law_numbers as []) (aCons (eVar 0) (aCons (eVar 1) (aCons (eBin (lift2 mulO) (eLstC (aCons (eC (.int 420)) aNil)) (eVar 2)) aNil)))) (aCons (eC (.int 0)) aNil))))
def h__law_pool : List MV → List MV → MM MV := bindM 3 0 (fun as _ => as) (runF 3 b__law_pool)
theorem r__law_pool {a0 a1 a2 : MV} {m : MH} : h__law_pool [a0, a1, a2] [] m = ofSO (b__law_pool [some a0, some a1, some a2] m) :=
  (bindM_ok (n := 3) (k := 0) (by rfl) (by rfl)).trans runF_eq
def b_law_f0 : SM := (sSeq (sSet 11 (eApp (lenO) (aCons (eComp (iSeqM (eVar 10)) [12] (turnC (gNm 12) (tOf (eBin (lift2 (inO false)) (eBin (lift2 ixO) (eVar 12) (eC (.int 0))) (eLstC (aCons (eC (.str "halt")) (aCons (eC (.str "settle")) (aCons (eC (.str "drain")) aNil)))))) (eVar 12))) aNil))) (sSeq (sSet 13 (eBin (oOwn [("Row", [.b "tuple"], fun as => h_Row___add__ as [])] (lift2 addO)) (eCall (hMake "Row" (fun as => h_Row___init__ as [])) aNil) (eApp (tupleO) (aCons (eVar 10) aNil)))) (sSeq (sSet 14 (eBin (lift2 subO) (eApp (lenO) (aCons (eVar 10) aNil)) (eVar 11))) (sSeq (sIf (tOrM (tOf (eBin (lift2 (Mi.eqO true)) (eCall (fun as => h_price as []) (aCons (eVar 13) aNil)) (eBin (lift2 addO) (eBin (lift2 mulO) (eC (.int 3)) (eVar 11)) (eVar 14)))) (tOf (eBin (lift2 (Mi.eqO true)) (eCallK h_price_plain (aCons (eVar 13) aNil) (aCons (eVar 7) aNil)) (eBin (lift2 addO) (eBin (lift2 mulO) (eC (.int 3)) (eVar 11)) (eBin (lift2 mulO) (eVar 7) (eVar 14)))))) (sRet (eC (.bl false))) sNil) (sSeq (sIf (tOf (eBin (lift2 (Mi.eqO true)) (eCall (fun as => h__law_price as []) (aCons (eVar 13) (aCons (eVar 6) (aCons (eVar 7) aNil)))) (eBin (lift2 addO) (eBin (lift2 mulO) (eVar 6) (eVar 11)) (eBin (lift2 mulO) (eVar 7) (eVar 14))))) (sRet (eC (.bl false))) sNil) (sIf (tAndM (tOf (eBin (lift2 ltO) (eApp (lenO) (aCons (eVar 10) aNil)) (eC (.int 5)))) (tOf (eBin (lift2 (Mi.eqO true)) (eCallK h_price_wait (aCons (eBin (oOwn [("Row", [.o "Row"], fun as => h_Row___add__ as [])] (lift2 addO)) (eVar 13) (eVar 13)) aNil) (aCons (eVar 6) aNil)) (eBin (lift2 mulO) (eC (.int 2)) (eCallK h_price_wait (aCons (eVar 13) aNil) (aCons (eVar 6) aNil)))))) (sRet (eC (.bl false))) sNil))))))
def b_law_f1 : SM := (sSeq (sSet 3 (eCall (fun as => h__law_pool as []) (aCons (eVar 2) (aCons (eBin (lift2 addO) (eC (.int 5500)) (eVar 1)) (aCons (eC (.int 60)) aNil))))) (sSeq (sPar 4 5 (aCons (eCall (fun as => h__law_drawn_stock as []) (aCons (eVar 3) aNil)) (aCons (eCall (fun as => h__law_draw as []) (aCons (eVar 3) (aCons (eC (.int 7)) aNil))) aNil))) (sSeq (sSet 5 (eIf (tOf (eBin (lift2 gtO) (eApp (lenO) (aCons (eVar 4) aNil)) (eC (.int 5)))) (eApp (min2O) (aCons (eVar 5) (aCons (eC (.int 4)) aNil))) (eVar 5))) (sSeq (sPar 6 7 (aCons (eBin (lift2 mulO) (eCall (fun as => h__law_draw as []) (aCons (eVar 3) (aCons (eC (.int 420)) aNil))) (eC (.int 2))) (aCons (eCall (fun as => h__law_pick as []) (aCons (eVar 3) (aCons (eLstC (aCons (eC (.int 0)) (aCons (eC (.int 1)) (aCons (eC (.int 7)) (aCons (eC (.int 1000)) aNil))))) aNil))) aNil))) (sSeq (sPar 8 9 (aCons (eCall (fun as => h__law_rows as []) (aCons (eVar 4) (aCons (eVar 5) aNil))) (aCons (eApp (listO) (aCons (eVar 4) aNil)) aNil))) (sSeq (sIf (tOrM (tOf (eBin (lift2 (Mi.eqO true)) (eVar 8) (eCall (fun as => h__law_listed as []) (aCons (eVar 4) (aCons (eVar 5) aNil))))) (tOf (eBin (lift2 (Mi.eqO true)) (eVar 4) (eVar 9)))) (sRet (eC (.bl false))) sNil) (sSeq (sFor (iSeqM (eSl (eVar 8) oNone (oSome (eC (.int 40))))) (gNm 10) b_law_f0) (sIf (tNotM (tOf (eCall (fun as => h__law_refused as []) (aCons (eVar 4) (aCons (eCall (hMake "Row" (fun as => h_Row___init__ as [])) aNil) aNil))))) (sRet (eC (.bl false))) sNil))))))))
def b_law : SM := (sSeq (sFor (iEnumM (eBin (lift2 addO) (eSl (eVar 0) oNone (oSome (eC (.int 4)))) (eBin (lift2 mulO) (eLstC (aCons (eC (.int 7)) aNil)) (eApp (intO) (aCons (eBin (lift2 (Mi.eqO false)) (eVar 0) (eLstC aNil)) aNil))))) (gTp (gsCons (gNm 1) (gsCons (gNm 2) gsNil))) b_law_f1) (sRet (eC (.bl true))))
def h_law : List MV → List MV → MM MV := bindM 1 0 (fun as _ => as) (runF 15 b_law)
theorem r_law {a0 : MV} {m : MH} : h_law [a0] [] m = ofSO (b_law [some a0, none, none, none, none, none, none, none, none, none, none, none, none, none, none] m) :=
  (bindM_ok (n := 1) (k := 0) (by rfl) (by rfl)).trans runF_eq
end K55
end

section
set_option Elab.async false
set_option linter.all false
set_option maxRecDepth 100000
set_option maxHeartbeats 4000000
/-! the text, what is asked of it (printed by gen.py) -/
namespace K55
open PySem PySem.Spec PyProof.Rows L2 Mi
open He (ga ma)
def top (i : Nat) : Stmt := PySem.Challenge.pw_takendown_k55_whole_rows_out_of_stocks.main.body.getD i (.Pass ⟨0, 0, 0, 0⟩)
abbrev s_price_of : Stmt := top 43
abbrev s_Row_steps : Stmt := (clsBody (top 34)).getD 11 (.Pass ⟨0, 0, 0, 0⟩)
abbrev s_is_whole : Stmt := top 23
abbrev s_require_number : Stmt := top 41
abbrev s_require_prices : Stmt := top 42
abbrev s_price : Stmt := top 44
abbrev s__law_price : Stmt := top 54
abbrev s_branches : Stmt := top 25
abbrev s_is_wrong : Stmt := top 26
abbrev s_wrongs : Stmt := top 27
abbrev s_lock_fault : Stmt := top 28
abbrev s_is_balanced : Stmt := top 33
abbrev s_is_name : Stmt := top 24
abbrev s_is_step : Stmt := top 29
abbrev s_require_steps : Stmt := top 32
abbrev s_Row___init__ : Stmt := (clsBody (top 34)).getD 0 (.Pass ⟨0, 0, 0, 0⟩)
abbrev s_require_stock : Stmt := top 40
abbrev s_rows_of : Stmt := top 45
abbrev s__law_rows : Stmt := top 53
abbrev s__law_refused : Stmt := top 56
abbrev s_Row_parts_of : Stmt := (clsBody (top 34)).getD 3 (.Pass ⟨0, 0, 0, 0⟩)
abbrev s_Row___add__ : Stmt := (clsBody (top 34)).getD 4 (.Pass ⟨0, 0, 0, 0⟩)
abbrev s__law_balanced : Stmt := top 51
abbrev s__law_listed : Stmt := top 52
abbrev s__law_draw : Stmt := top 49
abbrev s__law_pick : Stmt := top 50
abbrev s__law_drawn_stock : Stmt := top 55
abbrev s__law_numbers : Stmt := top 47
abbrev s__law_pool : Stmt := top 48
abbrev s_law : Stmt := top 57
abbrev sx_InvalidNumber : Stmt := (clsBody (top 5)).getD 0 (.Pass ⟨0, 0, 0, 0⟩)
abbrev sx_InvalidStep : Stmt := (clsBody (top 3)).getD 0 (.Pass ⟨0, 0, 0, 0⟩)
abbrev sx_InvalidStock : Stmt := (clsBody (top 4)).getD 0 (.Pass ⟨0, 0, 0, 0⟩)
structure Txt (P : Program) (K : PySem.W.Frag) (mg : Str → Option Value) : Prop where
  g_law : mg "law" = some (.ref (ga K "law"))
  n_int : mg "int" = none
  n_enumerate : mg "enumerate" = none
  c_DRAIN : ∃ t, mg "DRAIN" = some (.str "drain" t)
  c_SETTLE : ∃ t, mg "SETTLE" = some (.str "settle" t)
  c_HALT : ∃ t, mg "HALT" = some (.str "halt" t)
  n_sum : mg "sum" = none
  f_price_of : ∃ fd, FunD K "price_of" "price_of" (defArgs s_price_of) (defBody s_price_of) (defScope s_price_of) [] [] (ga K "price_of") fd
  cl_Row : Cls K (ga K "Row")
  na_Row_own_steps : NoAttr K (ga K "Row") "own_steps"
  n_list : mg "list" = none
  f_Row_steps : ∃ fd, FunD K "steps" "Row.steps" (defArgs s_Row_steps) (defBody s_Row_steps) (defScope s_Row_steps) [] [] (ma K (ga K "Row") "steps") fd
  m_Row_steps : Meth K (ga K "Row") "steps" (ma K (ga K "Row") "steps")
  g_price_of : mg "price_of" = some (.ref (ga K "price_of"))
  k_price_of : PySem.W.keepIn K (.ref (ga K "price_of")) = true
  n_isinstance : mg "isinstance" = none
  n_bool : mg "bool" = none
  f_is_whole : ∃ fd, FunD K "is_whole" "is_whole" (defArgs s_is_whole) (defBody s_is_whole) (defScope s_is_whole) [] [] (ga K "is_whole") fd
  g_is_whole : mg "is_whole" = some (.ref (ga K "is_whole"))
  k_is_whole : PySem.W.keepIn K (.ref (ga K "is_whole")) = true
  x_InvalidNumber : XTxt P K (ga K "InvalidNumber") (ma K (ga K "InvalidNumber") "__init__") "value" "value"
  g_InvalidNumber : mg "InvalidNumber" = some (.ref (ga K "InvalidNumber"))
  n_super : mg "super" = none
  top_super : (P.main.scope.names.lookup ("super" : Str)).isSome = false
  f_require_number : ∃ fd, FunD K "require_number" "require_number" (defArgs s_require_number) (defBody s_require_number) (defScope s_require_number) [] [] (ga K "require_number") fd
  c_MOST_PRICE : ∃ t, mg "MOST_PRICE" = some (.int 1000 t)
  g_require_number : mg "require_number" = some (.ref (ga K "require_number"))
  k_require_number : PySem.W.keepIn K (.ref (ga K "require_number")) = true
  f_require_prices : ∃ fd, FunD K "require_prices" "require_prices" (defArgs s_require_prices) (defBody s_require_prices) (defScope s_require_prices) [] [] (ga K "require_prices") fd
  g_require_prices : mg "require_prices" = some (.ref (ga K "require_prices"))
  k_require_prices : PySem.W.keepIn K (.ref (ga K "require_prices")) = true
  f_price : ∃ fd, FunD K "price" "price" (defArgs s_price) (defBody s_price) (defScope s_price) [] [("wait", V.int 3), ("plain", V.int 1)] (ga K "price") fd
  g_price : mg "price" = some (.ref (ga K "price"))
  k_price : PySem.W.keepIn K (.ref (ga K "price")) = true
  exm_InvalidNumber_InvalidNumber : PySem.W.exmOne K (.ref (ga K "InvalidNumber")) (.ref (ga K "InvalidNumber")) = some true
  exm_InvalidStock_InvalidNumber : PySem.W.exmOne K (.ref (ga K "InvalidStock")) (.ref (ga K "InvalidNumber")) = some false
  exm_InvalidStep_InvalidNumber : PySem.W.exmOne K (.ref (ga K "InvalidStep")) (.ref (ga K "InvalidNumber")) = some false
  xf_InvalidNumber : XfC K (ga K "InvalidNumber")
  xno_InvalidNumber_value : PySem.W.findIn K (.ref (ga K "InvalidNumber")) "value" = some none
  xf_InvalidStock : XfC K (ga K "InvalidStock")
  xno_InvalidStock_value : PySem.W.findIn K (.ref (ga K "InvalidStock")) "value" = some none
  n_repr : mg "repr" = none
  f__law_price : ∃ fd, FunD K "_law_price" "_law_price" (defArgs s__law_price) (defBody s__law_price) (defScope s__law_price) [] [] (ga K "_law_price") fd
  g__law_price : mg "_law_price" = some (.ref (ga K "_law_price"))
  k__law_price : PySem.W.keepIn K (.ref (ga K "_law_price")) = true
  n_range : mg "range" = none
  n_len : mg "len" = none
  c_CHOOSE : ∃ t, mg "CHOOSE" = some (.str "choose" t)
  c_TEST : ∃ t, mg "TEST" = some (.str "test" t)
  f_branches : ∃ fd, FunD K "branches" "branches" (defArgs s_branches) (defBody s_branches) (defScope s_branches) [] [] (ga K "branches") fd
  g_branches : mg "branches" = some (.ref (ga K "branches"))
  k_branches : PySem.W.keepIn K (.ref (ga K "branches")) = true
  g_wrongs : mg "wrongs" = some (.ref (ga K "wrongs"))
  k_wrongs : PySem.W.keepIn K (.ref (ga K "wrongs")) = true
  c_GIVE : ∃ t, mg "GIVE" = some (.str "give" t)
  c_TAKE : ∃ t, mg "TAKE" = some (.str "take" t)
  c_PIECE : ∃ t, mg "PIECE" = some (.str "piece" t)
  f_is_wrong : ∃ fd, FunD K "is_wrong" "is_wrong" (defArgs s_is_wrong) (defBody s_is_wrong) (defScope s_is_wrong) [] [] (ga K "is_wrong") fd
  g_is_wrong : mg "is_wrong" = some (.ref (ga K "is_wrong"))
  k_is_wrong : PySem.W.keepIn K (.ref (ga K "is_wrong")) = true
  f_wrongs : ∃ fd, FunD K "wrongs" "wrongs" (defArgs s_wrongs) (defBody s_wrongs) (defScope s_wrongs) [] [] (ga K "wrongs") fd
  f_lock_fault : ∃ fd, FunD K "lock_fault" "lock_fault" (defArgs s_lock_fault) (defBody s_lock_fault) (defScope s_lock_fault) [] [] (ga K "lock_fault") fd
  n_tuple : mg "tuple" = none
  g_lock_fault : mg "lock_fault" = some (.ref (ga K "lock_fault"))
  k_lock_fault : PySem.W.keepIn K (.ref (ga K "lock_fault")) = true
  f_is_balanced : ∃ fd, FunD K "is_balanced" "is_balanced" (defArgs s_is_balanced) (defBody s_is_balanced) (defScope s_is_balanced) [] [] (ga K "is_balanced") fd
  g_is_balanced : mg "is_balanced" = some (.ref (ga K "is_balanced"))
  k_is_balanced : PySem.W.keepIn K (.ref (ga K "is_balanced")) = true
  x_InvalidStep : XTxt P K (ga K "InvalidStep") (ma K (ga K "InvalidStep") "__init__") "index" "index"
  g_InvalidStep : mg "InvalidStep" = some (.ref (ga K "InvalidStep"))
  c_MOST_STEPS : ∃ t, mg "MOST_STEPS" = some (.int 8 t)
  g_STEPS : mg "STEPS" = some (.ref (ga K "STEPS"))
  t_STEPS : ∀ H, SqT K H (ga K "STEPS") ((["cancel", "bar", "halt", "settle", "close", "drain", "set", "clear", "take", "give"] : List Str).map V.str)
  c_LETTERS : ∃ t, mg "LETTERS" = some (.str "abcdefghijklmnopqrstuvwxyz" t)
  n_all : mg "all" = none
  n_str : mg "str" = none
  c_MOST_SIGNS : ∃ t, mg "MOST_SIGNS" = some (.int 8 t)
  f_is_name : ∃ fd, FunD K "is_name" "is_name" (defArgs s_is_name) (defBody s_is_name) (defScope s_is_name) [] [] (ga K "is_name") fd
  g_is_name : mg "is_name" = some (.ref (ga K "is_name"))
  k_is_name : PySem.W.keepIn K (.ref (ga K "is_name")) = true
  f_is_step : ∃ fd, FunD K "is_step" "is_step" (defArgs s_is_step) (defBody s_is_step) (defScope s_is_step) [] [] (ga K "is_step") fd
  g_is_step : mg "is_step" = some (.ref (ga K "is_step"))
  k_is_step : PySem.W.keepIn K (.ref (ga K "is_step")) = true
  f_require_steps : ∃ fd, FunD K "require_steps" "require_steps" (defArgs s_require_steps) (defBody s_require_steps) (defScope s_require_steps) [] [] (ga K "require_steps") fd
  g_require_steps : mg "require_steps" = some (.ref (ga K "require_steps"))
  k_require_steps : PySem.W.keepIn K (.ref (ga K "require_steps")) = true
  f_Row___init__ : ∃ fd, FunD K "__init__" "Row.__init__" (defArgs s_Row___init__) (defBody s_Row___init__) (defScope s_Row___init__) [] [] (ma K (ga K "Row") "__init__") fd
  mk_Row : Mk K (ga K "Row") (ma K (ga K "Row") "__init__")
  g_Row : mg "Row" = some (.ref (ga K "Row"))
  k_Row : PySem.W.keepIn K (.ref (ga K "Row")) = true
  c_MOST_STOCK : ∃ t, mg "MOST_STOCK" = some (.int 6 t)
  n_set : mg "set" = none
  x_InvalidStock : XTxt P K (ga K "InvalidStock") (ma K (ga K "InvalidStock") "__init__") "value" "value"
  g_InvalidStock : mg "InvalidStock" = some (.ref (ga K "InvalidStock"))
  f_require_stock : ∃ fd, FunD K "require_stock" "require_stock" (defArgs s_require_stock) (defBody s_require_stock) (defScope s_require_stock) [] [] (ga K "require_stock") fd
  g_require_stock : mg "require_stock" = some (.ref (ga K "require_stock"))
  k_require_stock : PySem.W.keepIn K (.ref (ga K "require_stock")) = true
  f_rows_of : ∃ fd, FunD K "rows_of" "rows_of" (defArgs s_rows_of) (defBody s_rows_of) (defScope s_rows_of) [] [] (ga K "rows_of") fd
  stop_InvalidStep : PySem.W.subIn K (.ref (ga K "InvalidStep")) (.type "StopIteration") = some false
  stop_InvalidNumber : PySem.W.subIn K (.ref (ga K "InvalidNumber")) (.type "StopIteration") = some false
  stop_InvalidStock : PySem.W.subIn K (.ref (ga K "InvalidStock")) (.type "StopIteration") = some false
  tl_Row_steps : TellD K mg (ga K "Row") "steps" "own_steps" (ma K (ga K "Row") "steps")
  g_rows_of : mg "rows_of" = some (.ref (ga K "rows_of"))
  k_rows_of : PySem.W.keepIn K (.ref (ga K "rows_of")) = true
  exm_InvalidNumber_InvalidStock : PySem.W.exmOne K (.ref (ga K "InvalidNumber")) (.ref (ga K "InvalidStock")) = some false
  exm_InvalidStock_InvalidStock : PySem.W.exmOne K (.ref (ga K "InvalidStock")) (.ref (ga K "InvalidStock")) = some true
  exm_InvalidStep_InvalidStock : PySem.W.exmOne K (.ref (ga K "InvalidStep")) (.ref (ga K "InvalidStock")) = some false
  f__law_rows : ∃ fd, FunD K "_law_rows" "_law_rows" (defArgs s__law_rows) (defBody s__law_rows) (defScope s__law_rows) [] [] (ga K "_law_rows") fd
  g__law_rows : mg "_law_rows" = some (.ref (ga K "_law_rows"))
  k__law_rows : PySem.W.keepIn K (.ref (ga K "_law_rows")) = true
  f__law_refused : ∃ fd, FunD K "_law_refused" "_law_refused" (defArgs s__law_refused) (defBody s__law_refused) (defScope s__law_refused) [] [] (ga K "_law_refused") fd
  g__law_refused : mg "_law_refused" = some (.ref (ga K "_law_refused"))
  k__law_refused : PySem.W.keepIn K (.ref (ga K "_law_refused")) = true
  kit_list_Row : PySem.W.kitOne K (.type "list") (.ref (ga K "Row")) = some false
  kit_tuple_Row : PySem.W.kitOne K (.type "tuple") (.ref (ga K "Row")) = some false
  kit_str_Row : PySem.W.kitOne K (.type "str") (.ref (ga K "Row")) = some false
  kit_int_Row : PySem.W.kitOne K (.type "int") (.ref (ga K "Row")) = some false
  kit_bool_Row : PySem.W.kitOne K (.type "bool") (.ref (ga K "Row")) = some false
  kit_NoneType_Row : PySem.W.kitOne K (.type "NoneType") (.ref (ga K "Row")) = some false
  kit_Row_Row : PySem.W.kitOne K (.ref (ga K "Row")) (.ref (ga K "Row")) = some true
  ik_Row : InsK K (ga K "Row")
  f_Row_parts_of : ∃ fd, FunD K "parts_of" "Row.parts_of" (defArgs s_Row_parts_of) (defBody s_Row_parts_of) (defScope s_Row_parts_of) [] [] (ma K (ga K "Row") "parts_of") fd
  m_Row_parts_of : Meth K (ga K "Row") "parts_of" (ma K (ga K "Row") "parts_of")
  f_Row___add__ : ∃ fd, FunD K "__add__" "Row.__add__" (defArgs s_Row___add__) (defBody s_Row___add__) (defScope s_Row___add__) [] [] (ma K (ga K "Row") "__add__") fd
  oth_Row_add_Row : othK K (ga K "Row") "add" (tagV (ga K) (.o "Row")) = true
  own_Row_add : OwnOp K (ga K "Row") "add" (ma K (ga K "Row") (PySem.dunder "add"))
  oth_Row_add_tuple : othK K (ga K "Row") "add" (tagV (ga K) (.b "tuple")) = true
  f__law_balanced : ∃ fd, FunD K "_law_balanced" "_law_balanced" (defArgs s__law_balanced) (defBody s__law_balanced) (defScope s__law_balanced) [] [] (ga K "_law_balanced") fd
  g__law_balanced : mg "_law_balanced" = some (.ref (ga K "_law_balanced"))
  k__law_balanced : PySem.W.keepIn K (.ref (ga K "_law_balanced")) = true
  f__law_listed : ∃ fd, FunD K "_law_listed" "_law_listed" (defArgs s__law_listed) (defBody s__law_listed) (defScope s__law_listed) [] [] (ga K "_law_listed") fd
  g__law_listed : mg "_law_listed" = some (.ref (ga K "_law_listed"))
  k__law_listed : PySem.W.keepIn K (.ref (ga K "_law_listed")) = true
  f__law_draw : ∃ fd, FunD K "_law_draw" "_law_draw" (defArgs s__law_draw) (defBody s__law_draw) (defScope s__law_draw) [] [] (ga K "_law_draw") fd
  g__law_draw : mg "_law_draw" = some (.ref (ga K "_law_draw"))
  k__law_draw : PySem.W.keepIn K (.ref (ga K "_law_draw")) = true
  f__law_pick : ∃ fd, FunD K "_law_pick" "_law_pick" (defArgs s__law_pick) (defBody s__law_pick) (defScope s__law_pick) [] [] (ga K "_law_pick") fd
  g__law_pick : mg "_law_pick" = some (.ref (ga K "_law_pick"))
  k__law_pick : PySem.W.keepIn K (.ref (ga K "_law_pick")) = true
  n_min : mg "min" = none
  f__law_drawn_stock : ∃ fd, FunD K "_law_drawn_stock" "_law_drawn_stock" (defArgs s__law_drawn_stock) (defBody s__law_drawn_stock) (defScope s__law_drawn_stock) [] [] (ga K "_law_drawn_stock") fd
  g__law_drawn_stock : mg "_law_drawn_stock" = some (.ref (ga K "_law_drawn_stock"))
  k__law_drawn_stock : PySem.W.keepIn K (.ref (ga K "_law_drawn_stock")) = true
  n_max : mg "max" = none
  f__law_numbers : ∃ fd, FunD K "_law_numbers" "_law_numbers" (defArgs s__law_numbers) (defBody s__law_numbers) (defScope s__law_numbers) [] [] (ga K "_law_numbers") fd
  g__law_numbers : mg "_law_numbers" = some (.ref (ga K "_law_numbers"))
  k__law_numbers : PySem.W.keepIn K (.ref (ga K "_law_numbers")) = true
  f__law_pool : ∃ fd, FunD K "_law_pool" "_law_pool" (defArgs s__law_pool) (defBody s__law_pool) (defScope s__law_pool) [] [] (ga K "_law_pool") fd
  g__law_pool : mg "_law_pool" = some (.ref (ga K "_law_pool"))
  k__law_pool : PySem.W.keepIn K (.ref (ga K "_law_pool")) = true
  f_law : ∃ fd, FunD K "law" "law" (defArgs s_law) (defBody s_law) (defScope s_law) [] [] (ga K "law") fd
end K55
end

section
set_option Elab.async false
set_option linter.all false
set_option maxRecDepth 100000
set_option maxHeartbeats 4000000
/-! each def keeps its mirror (printed by gen.py) -/
namespace K55
open PySem PySem.Spec PyProof.Rows L2 Mi
open He (ga ma)
section
variable {P : Program} {w : World} {K : PySem.W.Frag} {mg : Str → Option Value} {base : Heap}
/-! ### price_of -/
abbrev N_price_of : List Str := ["steps", "wait", "plain", "step"]
theorem sc_price_of : FnScope N_price_of ["steps", "wait", "plain"] (defScope s_price_of) := ⟨rfl, rfl, rfl, by decide +kernel, rfl, by decide +kernel, by decide +kernel⟩
theorem jb_price_of (T : Txt P K mg) (cdv : Value) (A : Around) (outer : List Env) (s : Shared) (H : Hp) (E : XK) (hr : RoomG 0 (A.deeper (envOfC "price_of" (defScope s_price_of) s.heap.objs.size (ga K "price_of") cdv))) : JSs (CtxOf P w K mg base N_price_of "price_of" (defScope s_price_of) (ga K "price_of") cdv A outer s H E) (ga K) (WB E) (defBody s_price_of) b_price_of := by
  exact (s_one (s_ret (e_callB (call_sumM rfl) T.n_sum bt_sum (a_cons (e_lc rfl sc_price_of.nd (own := [("step", 3)]) (i_seq (e_var 0)) (blkOk_by (N := N_price_of) (sc := defScope s_price_of) (own := [("step", 3)]) (by decide +kernel)) (fun _ _ _ _ _ => (g_name (i := 3) sc_price_of.nd)) (fun _ _ _ _ _ => ts_nil) (fun _ _ _ _ _ => (e_if (t_cmp2 (op_inM hr.u65) (e_ix hr.u1 (e_var 3) e_int) (e_tup (a_cons (e_gS T.c_HALT) (a_cons (e_gS T.c_SETTLE) (a_cons (e_gS T.c_DRAIN) a_nil))))) (e_var 1) (e_var 2)))) a_nil))))
theorem fg_price_of (T : Txt P K mg) : FnG P w K mg base (ga K) 1 (ga K "price_of") [] h_price_of := by
  obtain ⟨fd, F⟩ := T.f_price_of
  exact fg_of (N := N_price_of) (ps := ["steps", "wait", "plain"]) F sc_price_of (bndM_N F fun _ _ _ _ _ _ us hl => match us, hl with | [_, _, _], _ => rfl) fun cdv A outer s H E hr => jb_price_of T cdv A outer s H E hr
/-! ### Row.steps -/
abbrev N_Row_steps : List Str := ["self"]
theorem sc_Row_steps : FnScope N_Row_steps ["self"] (defScope s_Row_steps) := ⟨rfl, rfl, rfl, by decide +kernel, rfl, by decide +kernel, by decide +kernel⟩
theorem jb_Row_steps (T : Txt P K mg) (cdv : Value) (A : Around) (outer : List Env) (s : Shared) (H : Hp) (E : XK) (hr : RoomG 0 (A.deeper (envOfC "Row.steps" (defScope s_Row_steps) s.heap.objs.size (ma K (ga K "Row") "steps") cdv))) : JSs (CtxOf P w K mg base N_Row_steps "Row.steps" (defScope s_Row_steps) (ma K (ga K "Row") "steps") cdv A outer s H E) (ga K) (WB E) (defBody s_Row_steps) b_Row_steps := by
  exact (s_one (s_ret (e_callT (call_listM) T.n_list bt_list (a_cons (e_fld (cs := ["Row"]) (e_var 0) (two_c ⟨T.cl_Row, T.na_Row_own_steps⟩ no_c)) a_nil))))
theorem fg_Row_steps (T : Txt P K mg) : FnG P w K mg base (ga K) 1 (ma K (ga K "Row") "steps") [] h_Row_steps := by
  obtain ⟨fd, F⟩ := T.f_Row_steps
  exact fg_of (N := N_Row_steps) (ps := ["self"]) F sc_Row_steps (bndM_N F fun _ _ _ _ _ _ us hl => match us, hl with | [_], _ => rfl) fun cdv A outer s H E hr => jb_Row_steps T cdv A outer s H E hr
/-! ### is_whole -/
abbrev N_is_whole : List Str := ["value", "least", "most"]
theorem sc_is_whole : FnScope N_is_whole ["value", "least", "most"] (defScope s_is_whole) := ⟨rfl, rfl, rfl, by decide +kernel, rfl, by decide +kernel, by decide +kernel⟩
theorem jb_is_whole (T : Txt P K mg) (cdv : Value) (A : Around) (outer : List Env) (s : Shared) (H : Hp) (E : XK) (hr : RoomG 0 (A.deeper (envOfC "is_whole" (defScope s_is_whole) s.heap.objs.size (ga K "is_whole") cdv))) : JSs (CtxOf P w K mg base N_is_whole "is_whole" (defScope s_is_whole) (ga K "is_whole") cdv A outer s H E) (ga K) (WB E) (defBody s_is_whole) b_is_whole := by
  exact (s_one (s_ret (e_and (e_isi (e_var 0) (pe_tyn T.n_int bt_int) (.ty "int") isTab_int T.n_isinstance) (e_and (e_not (e_isi (e_var 0) (pe_tyn T.n_bool bt_bool) (.ty "bool") isTab_bool T.n_isinstance)) (e_one (e_chain op_leM opM_of op_leM opM_of ord_pure (e_var 1) (e_var 0) (e_var 2)))))))
theorem fg_is_whole (T : Txt P K mg) : FnG P w K mg base (ga K) 1 (ga K "is_whole") [] h_is_whole := by
  obtain ⟨fd, F⟩ := T.f_is_whole
  exact fg_of (N := N_is_whole) (ps := ["value", "least", "most"]) F sc_is_whole (bndM_N F fun _ _ _ _ _ _ us hl => match us, hl with | [_, _, _], _ => rfl) fun cdv A outer s H E hr => jb_is_whole T cdv A outer s H E hr
/-! ### require_number -/
abbrev N_require_number : List Str := ["value", "most"]
theorem sc_require_number : FnScope N_require_number ["value", "most"] (defScope s_require_number) := ⟨rfl, rfl, rfl, by decide +kernel, rfl, by decide +kernel, by decide +kernel⟩
theorem jb_require_number (T : Txt P K mg) (cdv : Value) (A : Around) (outer : List Env) (s : Shared) (H : Hp) (E : XK) (hr : RoomG 1 (A.deeper (envOfC "require_number" (defScope s_require_number) s.heap.objs.size (ga K "require_number") cdv))) : JSs (CtxOf P w K mg base N_require_number "require_number" (defScope s_require_number) (ga K "require_number") cdv A outer s H E) (ga K) (WB E) (defBody s_require_number) b_require_number := by
  exact (s_one (s_if (t_not (t_val (e_call (cm_fn (fg_is_whole T) (hr.mono (by decide)) takesB) T.g_is_whole T.k_is_whole (a_cons (e_var 0) (a_cons e_int (a_cons (e_var 1) a_nil)))))) (s_one (s_raise (c := "InvalidNumber") rfl takesB T.x_InvalidNumber T.g_InvalidNumber T.n_super T.top_super hr.room (e_var 0))) s_nil))
theorem fg_require_number (T : Txt P K mg) : FnG P w K mg base (ga K) 2 (ga K "require_number") [] h_require_number := by
  obtain ⟨fd, F⟩ := T.f_require_number
  exact fg_of (N := N_require_number) (ps := ["value", "most"]) F sc_require_number (bndM_N F fun _ _ _ _ _ _ us hl => match us, hl with | [_, _], _ => rfl) fun cdv A outer s H E hr => jb_require_number T cdv A outer s H E hr
/-! ### require_prices -/
abbrev N_require_prices : List Str := ["wait", "plain", "value"]
theorem sc_require_prices : FnScope N_require_prices ["wait", "plain"] (defScope s_require_prices) := ⟨rfl, rfl, rfl, by decide +kernel, rfl, by decide +kernel, by decide +kernel⟩
theorem jb_require_prices (T : Txt P K mg) (cdv : Value) (A : Around) (outer : List Env) (s : Shared) (H : Hp) (E : XK) (hr : RoomG 2 (A.deeper (envOfC "require_prices" (defScope s_require_prices) s.heap.objs.size (ga K "require_prices") cdv))) : JSs (CtxOf P w K mg base N_require_prices "require_prices" (defScope s_require_prices) (ga K "require_prices") cdv A outer s H E) (ga K) (WB E) (defBody s_require_prices) b_require_prices := by
  exact (s_one (s_for passB rfl (i_seq (e_tup (a_cons (e_var 0) (a_cons (e_var 1) a_nil)))) (g_name (i := 2) sc_require_prices.nd) (s_one (s_expr (e_call (cm_fn (fg_require_number T) (hr.mono (by decide)) takesB) T.g_require_number T.k_require_number (a_cons (e_var 2) (a_cons (e_gI T.c_MOST_PRICE) a_nil)))))))
theorem fg_require_prices (T : Txt P K mg) : FnG P w K mg base (ga K) 3 (ga K "require_prices") [] h_require_prices := by
  obtain ⟨fd, F⟩ := T.f_require_prices
  exact fg_of (N := N_require_prices) (ps := ["wait", "plain"]) F sc_require_prices (bndM_N F fun _ _ _ _ _ _ us hl => match us, hl with | [_, _], _ => rfl) fun cdv A outer s H E hr => jb_require_prices T cdv A outer s H E hr
/-! ### price -/
abbrev N_price : List Str := ["row", "wait", "plain"]
theorem sc_price : FnScope N_price ["row", "wait", "plain"] (defScope s_price) := ⟨rfl, rfl, rfl, by decide +kernel, rfl, by decide +kernel, by decide +kernel⟩
theorem jb_price (T : Txt P K mg) (cdv : Value) (A : Around) (outer : List Env) (s : Shared) (H : Hp) (E : XK) (hr : RoomG 3 (A.deeper (envOfC "price" (defScope s_price) s.heap.objs.size (ga K "price") cdv))) : JSs (CtxOf P w K mg base N_price "price" (defScope s_price) (ga K "price") cdv A outer s H E) (ga K) (WB E) (defBody s_price) b_price := by
  exact (s_cons (s_expr (e_call (cm_fn (fg_require_prices T) (hr.mono (by decide)) takesB) T.g_require_prices T.k_require_prices (a_cons (e_var 1) (a_cons (e_var 2) a_nil)))) (s_one (s_ret (e_call (cm_fn (fg_price_of T) (hr.mono (by decide)) takesB) T.g_price_of T.k_price_of (a_cons (e_meth0 (.cons T.cl_Row T.m_Row_steps (cm_fn (fg_Row_steps T) (hr.mono (by decide)) takesB) .nil) (e_var 0)) (a_cons (e_var 1) (a_cons (e_var 2) a_nil)))))))
theorem fg_price_wait_plain (T : Txt P K mg) : FnG P w K mg base (ga K) 4 (ga K "price") ["wait", "plain"] h_price_wait_plain := by
  obtain ⟨fd, F⟩ := T.f_price
  refine fg_of (N := N_price) (ps := ["row", "wait", "plain"]) (n := 1) (ks := ["wait", "plain"]) (gM := fun as bs => as ++ bs) F sc_price (bndM_K (ms := ([] : List (Str × V))) (mm := []) (fun us mv ws => us ++ ws) (fun us mv ws => us ++ ws) (fun us mv ws => us ++ ws) F (by simp) ?h1 (fun r H => .nil) (fun a b c => (Vals.app a c)) (fun a b c => (a.app c)) ?h3 ?h2) fun cdv A outer s H E hr => jb_price T cdv A outer s H E hr
  case h1 => intro q hq; simp at hq ⊢; first | done | exact hq | (rcases hq with rfl | rfl <;> simp) | (subst hq; simp)
  case h3 => intro vs mz zs a b c; simp [a, b, c]
  case h2 =>
    intro D doc pm an cdv ct us mv ws h1 h2 h3
    exact match us, mv, ws, h1, h2, h3 with | [_], [], [_, _], _, _, _ => rfl
theorem fg_price_wait (T : Txt P K mg) : FnG P w K mg base (ga K) 4 (ga K "price") ["wait"] h_price_wait := by
  obtain ⟨fd, F⟩ := T.f_price
  refine fg_of (N := N_price) (ps := ["row", "wait", "plain"]) (n := 1) (ks := ["wait"]) (gM := fun as bs => as ++ bs ++ ([MV.int 1] : List MV)) F sc_price (bndM_K (ms := ([("plain", V.int 1)] : List (Str × V))) (mm := [MV.int 1]) (fun us mv ws => us ++ ws ++ mv) (fun us mv ws => us ++ ws ++ mv) (fun us mv ws => us ++ ws ++ mv) F (by simp) ?h1 (fun r H => (.cons (.int _) .nil)) (fun a b c => (Vals.app (Vals.app a c) b)) (fun a b c => ((a.app c).app b)) ?h3 ?h2) fun cdv A outer s H E hr => jb_price T cdv A outer s H E hr
  case h1 => intro q hq; simp at hq ⊢; first | done | exact hq | (rcases hq with rfl | rfl <;> simp) | (subst hq; simp)
  case h3 => intro vs mz zs a b c; simp [a, b, c]
  case h2 =>
    intro D doc pm an cdv ct us mv ws h1 h2 h3
    exact match us, mv, ws, h1, h2, h3 with | [_], [_], [_], _, _, _ => ⟨_, _, _, _, _, _, rfl, rfl, rfl⟩
theorem fg_price (T : Txt P K mg) : FnG P w K mg base (ga K) 4 (ga K "price") [] h_price := by
  obtain ⟨fd, F⟩ := T.f_price
  refine fg_of (N := N_price) (ps := ["row", "wait", "plain"]) (n := 1) (ks := []) (gM := fun as bs => as ++ ([MV.int 3, MV.int 1] : List MV)) F sc_price (bndM_K (ms := ([("wait", V.int 3), ("plain", V.int 1)] : List (Str × V))) (mm := [MV.int 3, MV.int 1]) (fun us mv ws => us ++ mv) (fun us mv ws => us ++ mv) (fun us mv ws => us ++ mv) F (by simp) ?h1 (fun r H => (.cons (.int _) (.cons (.int _) .nil))) (fun a b c => (Vals.app a b)) (fun a b c => (a.app b)) ?h3 ?h2) fun cdv A outer s H E hr => jb_price T cdv A outer s H E hr
  case h1 => intro q hq; simp at hq ⊢; first | done | exact hq | (rcases hq with rfl | rfl <;> simp) | (subst hq; simp)
  case h3 => intro vs mz zs a b c; simp [a, b, c]
  case h2 =>
    intro D doc pm an cdv ct us mv ws h1 h2 h3
    exact match us, mv, ws, h1, h2, h3 with | [_], [_, _], [], _, _, _ => ⟨_, _, _, _, _, _, rfl, rfl, ⟨_, _, _, _, _, _, rfl, rfl, rfl⟩⟩
theorem fg_price_plain (T : Txt P K mg) : FnG P w K mg base (ga K) 4 (ga K "price") ["plain"] h_price_plain := by
  obtain ⟨fd, F⟩ := T.f_price
  refine fg_of (N := N_price) (ps := ["row", "wait", "plain"]) (n := 1) (ks := ["plain"]) (gM := fun as bs => as ++ ([MV.int 3] : List MV) ++ bs) F sc_price (bndM_K (ms := ([("wait", V.int 3)] : List (Str × V))) (mm := [MV.int 3]) (fun us mv ws => us ++ mv ++ ws) (fun us mv ws => us ++ mv ++ ws) (fun us mv ws => us ++ mv ++ ws) F (by simp) ?h1 (fun r H => (.cons (.int _) .nil)) (fun a b c => (Vals.app (Vals.app a b) c)) (fun a b c => ((a.app b).app c)) ?h3 ?h2) fun cdv A outer s H E hr => jb_price T cdv A outer s H E hr
  case h1 => intro q hq; simp at hq ⊢; first | done | exact hq | (rcases hq with rfl | rfl <;> simp) | (subst hq; simp)
  case h3 => intro vs mz zs a b c; simp [a, b, c]
  case h2 =>
    intro D doc pm an cdv ct us mv ws h1 h2 h3
    exact match us, mv, ws, h1, h2, h3 with | [_], [_], [_], _, _, _ => ⟨_, _, _, _, _, _, rfl, rfl, rfl⟩
/-! ### _law_price -/
abbrev N__law_price : List Str := ["_law_row", "_law_one", "_law_other", "e"]
theorem sc__law_price : FnScope N__law_price ["_law_row", "_law_one", "_law_other"] (defScope s__law_price) := ⟨rfl, rfl, rfl, by decide +kernel, rfl, by decide +kernel, by decide +kernel⟩
theorem jb__law_price (T : Txt P K mg) (cdv : Value) (A : Around) (outer : List Env) (s : Shared) (H : Hp) (E : XK) (hr : RoomG 4 (A.deeper (envOfC "_law_price" (defScope s__law_price) s.heap.objs.size (ga K "_law_price") cdv))) : JSs (CtxOf P w K mg base N__law_price "_law_price" (defScope s__law_price) (ga K "_law_price") cdv A outer s H E) (ga K) (WB E) (defBody s__law_price) b__law_price := by
  exact (s_one (s_try rfl rfl sc__law_price.nd takesB (fun W pn xe tk hp => (s_one (s_ret (e_callK (ks := ["wait", "plain"]) (cm_fnK (fg_price_wait_plain T) (hr.mono (by decide)) tk) T.g_price T.k_price (a_cons (e_var 0) a_nil) (k_cons (e_var 1) (k_cons (e_var 2) k_nil)) (hkl := (aCons_len (aCons_len aNil_len))))))) (.as_ (i := 3) ⟨rfl, by decide, .inl T.g_InvalidNumber⟩ rfl rfl (tb_cons T.exm_InvalidStep_InvalidNumber (tb_cons T.exm_InvalidStock_InvalidNumber (tb_cons T.exm_InvalidNumber_InvalidNumber tb_nil))) (h_ret (h_lst (h_cons h_str (h_cons (h_repr hr.gd hr.u66 (h_fld (cs := ["InvalidStock", "InvalidNumber"]) (i := 3) rfl rfl (two_c ⟨T.xf_InvalidStock, T.xno_InvalidStock_value⟩ (two_c ⟨T.xf_InvalidNumber, T.xno_InvalidNumber_value⟩ no_c))) T.n_repr) h_nil)))) .nil)))
theorem fg__law_price (T : Txt P K mg) : FnG P w K mg base (ga K) 5 (ga K "_law_price") [] h__law_price := by
  obtain ⟨fd, F⟩ := T.f__law_price
  exact fg_of (N := N__law_price) (ps := ["_law_row", "_law_one", "_law_other"]) F sc__law_price (bndM_N F fun _ _ _ _ _ _ us hl => match us, hl with | [_, _, _], _ => rfl) fun cdv A outer s H E hr => jb__law_price T cdv A outer s H E hr
/-! ### branches -/
abbrev N_branches : List Str := ["item"]
theorem sc_branches : FnScope N_branches ["item"] (defScope s_branches) := ⟨rfl, rfl, rfl, by decide +kernel, rfl, by decide +kernel, by decide +kernel⟩
theorem jb_branches (T : Txt P K mg) (cdv : Value) (A : Around) (outer : List Env) (s : Shared) (H : Hp) (E : XK) (hr : RoomG 0 (A.deeper (envOfC "branches" (defScope s_branches) s.heap.objs.size (ga K "branches") cdv))) : JSs (CtxOf P w K mg base N_branches "branches" (defScope s_branches) (ga K "branches") cdv A outer s H E) (ga K) (WB E) (defBody s_branches) b_branches := by
  exact (s_cons (s_if (t_cmp2 (op_eqM hr.u64) (e_ix hr.u1 (e_var 0) e_int) (e_gS T.c_TEST)) (s_one (s_ret (e_tup (a_cons (e_ix hr.u1 (e_var 0) e_int) (a_cons (e_ix hr.u1 (e_var 0) e_int) a_nil))))) s_nil) (s_cons (s_if (t_cmp2 (op_eqM hr.u64) (e_ix hr.u1 (e_var 0) e_int) (e_gS T.c_CHOOSE)) (s_one (s_ret (e_tup (a_cons (e_ix hr.u1 (e_var 0) e_int) (a_cons (e_ix hr.u1 (e_var 0) e_int) a_nil))))) s_nil) (s_one (s_ret (e_tup (a_cons (e_tup a_nil) (a_cons (e_tup a_nil) a_nil)))))))
theorem fg_branches (T : Txt P K mg) : FnG P w K mg base (ga K) 1 (ga K "branches") [] h_branches := by
  obtain ⟨fd, F⟩ := T.f_branches
  exact fg_of (N := N_branches) (ps := ["item"]) F sc_branches (bndM_N F fun _ _ _ _ _ _ us hl => match us, hl with | [_], _ => rfl) fun cdv A outer s H E hr => jb_branches T cdv A outer s H E hr
/-! ### is_wrong -/
abbrev N_is_wrong : List Str := ["item", "held", "own", "behind"]
theorem sc_is_wrong : FnScope N_is_wrong ["item", "held", "own", "behind"] (defScope s_is_wrong) := ⟨rfl, rfl, rfl, by decide +kernel, rfl, by decide +kernel, by decide +kernel⟩
theorem jb_is_wrong (T : Txt P K mg) (cdv : Value) (A : Around) (outer : List Env) (s : Shared) (H : Hp) (E : XK) (hr : RoomG 0 (A.deeper (envOfC "is_wrong" (defScope s_is_wrong) s.heap.objs.size (ga K "is_wrong") cdv))) : JSs (CtxOf P w K mg base N_is_wrong "is_wrong" (defScope s_is_wrong) (ga K "is_wrong") cdv A outer s H E) (ga K) (WB E) (defBody s_is_wrong) b_is_wrong := by
  exact (s_cons (s_if (t_cmp2 (op_eqM hr.u64) (e_ix hr.u1 (e_var 0) e_int) (e_gS T.c_TAKE)) (s_one (s_ret (e_or (e_cmp2 (op_inM hr.u65) (e_ix hr.u1 (e_var 0) e_int) (e_var 1)) (e_one (e_cmp2 (op_notInM hr.u65) (e_tup (a_cons (e_gS T.c_GIVE) (a_cons (e_ix hr.u1 (e_var 0) e_int) a_nil))) (e_var 3)))))) s_nil) (s_cons (s_if (t_cmp2 (op_eqM hr.u64) (e_ix hr.u1 (e_var 0) e_int) (e_gS T.c_GIVE)) (s_one (s_ret (e_or (e_cmp2 (op_eqM hr.u64) (e_var 2) (e_tup a_nil)) (e_one (e_cmp2 (op_neM hr.u64) (e_ix hr.u1 (e_var 2) (e_neg e_int)) (e_ix hr.u1 (e_var 0) e_int)))))) s_nil) (s_one (s_ret (e_and (e_cmp2 (op_eqM hr.u64) (e_ix hr.u1 (e_var 0) e_int) (e_gS T.c_PIECE)) (e_one (e_cmp2 (op_inM hr.u65) (e_ix hr.u1 (e_var 0) e_int) (e_var 1))))))))
theorem fg_is_wrong (T : Txt P K mg) : FnG P w K mg base (ga K) 1 (ga K "is_wrong") [] h_is_wrong := by
  obtain ⟨fd, F⟩ := T.f_is_wrong
  exact fg_of (N := N_is_wrong) (ps := ["item", "held", "own", "behind"]) F sc_is_wrong (bndM_N F fun _ _ _ _ _ _ us hl => match us, hl with | [_, _, _, _], _ => rfl) fun cdv A outer s H E hr => jb_is_wrong T cdv A outer s H E hr
/-! ### wrongs -/
abbrev N_wrongs : List Str := ["items", "held", "found", "own", "at", "item", "branch"]
theorem sc_wrongs : FnScope N_wrongs ["items", "held"] (defScope s_wrongs) := ⟨rfl, rfl, rfl, by decide +kernel, rfl, by decide +kernel, by decide +kernel⟩
theorem fg_wrongs (T : Txt P K mg) : ∀ n : Nat, FnG P w K mg base (ga K) (n + 1) (ga K "wrongs") [] (h_wrongs n)
  | 0 => FnG.bad
  | n + 1 => by
    have ih := fg_wrongs T n
    obtain ⟨fd, F⟩ := T.f_wrongs
    refine (fg_of (N := N_wrongs) (ps := ["items", "held"]) (k := n + 1) F sc_wrongs (bndM_N F fun _ _ _ _ _ _ us hl => match us, hl with | [_, _], _ => rfl) fun cdv A outer s H E hr => ?_).mono (by omega)
    exact (s_cons (s_set (i := 2) (e_lst a_nil) sc_wrongs.nd) (s_cons (s_set (i := 3) (e_tup a_nil) sc_wrongs.nd) (s_cons (s_for passB rfl (i_enum (e_var 0) T.n_enumerate) (g_tup rfl (gs_cons (g_name (i := 4) sc_wrongs.nd) (gs_cons (g_name (i := 5) sc_wrongs.nd) gs_nil)) (gsCons_len (gsCons_len gsNil_len))) (s_cons (s_expr (e_mt PySem.F.plainAttrs_list PySem.F.slot_list_append PySem.F.type_list_append mt_appendM (e_var 2) (a_cons (e_call (cm_fn (fg_is_wrong T) (hr.mono (by omega)) takesB) T.g_is_wrong T.k_is_wrong (a_cons (e_var 5) (a_cons (e_bin2 op_addM (e_var 1) (e_var 3)) (a_cons (e_var 3) (a_cons (e_sl (e_var 0) (o_some (e_bin2 op_addM (e_var 4) e_int)) o_none) a_nil))))) a_nil))) (s_cons (s_if (t_cmp2 (op_eqM hr.u64) (e_ix hr.u1 (e_var 5) e_int) (e_gS T.c_TAKE)) (s_one (s_set (i := 3) (e_bin2 op_addM (e_var 3) (e_tup (a_cons (e_ix hr.u1 (e_var 5) e_int) a_nil))) sc_wrongs.nd)) s_nil) (s_cons (s_if (t_cmp2 (op_eqM hr.u64) (e_ix hr.u1 (e_var 5) e_int) (e_gS T.c_GIVE)) (s_one (s_set (i := 3) (e_sl (e_var 3) o_none (o_some (e_neg e_int))) sc_wrongs.nd)) s_nil) (s_one (s_for passB rfl (i_seq (e_call (cm_fn (fg_branches T) (hr.mono (by omega)) takesB) T.g_branches T.k_branches (a_cons (e_var 5) a_nil))) (g_name (i := 6) sc_wrongs.nd) (s_one (s_expr (e_mt PySem.F.plainAttrs_list PySem.F.slot_list_extend PySem.F.type_list_extend mt_extendM (e_var 2) (a_cons (e_call (cm_fn ih (hr.mono (by omega)) takesB) T.g_wrongs T.k_wrongs (a_cons (e_var 6) (a_cons (e_bin2 op_addM (e_var 1) (e_var 3)) a_nil))) a_nil)))))))))) (s_one (s_ret (e_lock (e_var 2)))))))
/-! ### lock_fault -/
abbrev N_lock_fault : List Str := ["items", "number", "wrong"]
theorem sc_lock_fault : FnScope N_lock_fault ["items"] (defScope s_lock_fault) := ⟨rfl, rfl, rfl, by decide +kernel, rfl, by decide +kernel, by decide +kernel⟩
theorem jb_lock_fault (T : Txt P K mg) (cdv : Value) (A : Around) (outer : List Env) (s : Shared) (H : Hp) (E : XK) (hr : RoomG 3 (A.deeper (envOfC "lock_fault" (defScope s_lock_fault) s.heap.objs.size (ga K "lock_fault") cdv))) : JSs (CtxOf P w K mg base N_lock_fault "lock_fault" (defScope s_lock_fault) (ga K "lock_fault") cdv A outer s H E) (ga K) (WB E) (defBody s_lock_fault) b_lock_fault := by
  exact (s_cons (s_for passB rfl (i_enum (e_call (cm_fn (fg_wrongs T 2) (hr.mono (by decide)) takesB) T.g_wrongs T.k_wrongs (a_cons (e_var 0) (a_cons (e_tup a_nil) a_nil))) T.n_enumerate) (g_tup rfl (gs_cons (g_name (i := 1) sc_lock_fault.nd) (gs_cons (g_name (i := 2) sc_lock_fault.nd) gs_nil)) (gsCons_len (gsCons_len gsNil_len))) (s_one (s_if (t_val (e_var 2)) (s_one (s_ret (e_var 1))) s_nil))) (s_one (s_ret e_non)))
theorem fg_lock_fault (T : Txt P K mg) : FnG P w K mg base (ga K) 4 (ga K "lock_fault") [] h_lock_fault := by
  obtain ⟨fd, F⟩ := T.f_lock_fault
  exact fg_of (N := N_lock_fault) (ps := ["items"]) F sc_lock_fault (bndM_N F fun _ _ _ _ _ _ us hl => match us, hl with | [_], _ => rfl) fun cdv A outer s H E hr => jb_lock_fault T cdv A outer s H E hr
/-! ### is_balanced -/
abbrev N_is_balanced : List Str := ["steps"]
theorem sc_is_balanced : FnScope N_is_balanced ["steps"] (defScope s_is_balanced) := ⟨rfl, rfl, rfl, by decide +kernel, rfl, by decide +kernel, by decide +kernel⟩
theorem jb_is_balanced (T : Txt P K mg) (cdv : Value) (A : Around) (outer : List Env) (s : Shared) (H : Hp) (E : XK) (hr : RoomG 4 (A.deeper (envOfC "is_balanced" (defScope s_is_balanced) s.heap.objs.size (ga K "is_balanced") cdv))) : JSs (CtxOf P w K mg base N_is_balanced "is_balanced" (defScope s_is_balanced) (ga K "is_balanced") cdv A outer s H E) (ga K) (WB E) (defBody s_is_balanced) b_is_balanced := by
  exact (s_one (s_ret (e_cmp2 op_isM (e_call (cm_fn (fg_lock_fault T) (hr.mono (by decide)) takesB) T.g_lock_fault T.k_lock_fault (a_cons (e_callT (call_tupleM) T.n_tuple bt_tuple (a_cons (e_var 0) a_nil)) a_nil)) e_non)))
theorem fg_is_balanced (T : Txt P K mg) : FnG P w K mg base (ga K) 5 (ga K "is_balanced") [] h_is_balanced := by
  obtain ⟨fd, F⟩ := T.f_is_balanced
  exact fg_of (N := N_is_balanced) (ps := ["steps"]) F sc_is_balanced (bndM_N F fun _ _ _ _ _ _ us hl => match us, hl with | [_], _ => rfl) fun cdv A outer s H E hr => jb_is_balanced T cdv A outer s H E hr
/-! ### is_name -/
abbrev N_is_name : List Str := ["value", "sign"]
theorem sc_is_name : FnScope N_is_name ["value"] (defScope s_is_name) := ⟨rfl, rfl, rfl, by decide +kernel, rfl, by decide +kernel, by decide +kernel⟩
theorem jb_is_name (T : Txt P K mg) (cdv : Value) (A : Around) (outer : List Env) (s : Shared) (H : Hp) (E : XK) (hr : RoomG 0 (A.deeper (envOfC "is_name" (defScope s_is_name) s.heap.objs.size (ga K "is_name") cdv))) : JSs (CtxOf P w K mg base N_is_name "is_name" (defScope s_is_name) (ga K "is_name") cdv A outer s H E) (ga K) (WB E) (defBody s_is_name) b_is_name := by
  exact (s_cons (s_if (t_pt (t_or (t_not (t_val (e_isi (e_var 0) (pe_tyn T.n_str bt_str) (.ty "str") isTab_str T.n_isinstance))) (t_or1 (t_not (t_chain op_leM opM_of op_leM opM_of ord_pure e_int (e_callB (call_lenM) T.n_len bt_len (a_cons (e_var 0) a_nil)) (e_gI T.c_MOST_SIGNS)))))) (s_one (s_ret e_bl)) s_nil) (s_one (s_ret (e_callB (call_allM rfl) T.n_all bt_all (a_cons (e_lc rfl sc_is_name.nd (own := [("sign", 1)]) (i_str (e_var 0)) (blkOk_by (N := N_is_name) (sc := defScope s_is_name) (own := [("sign", 1)]) (by decide +kernel)) (fun _ _ _ _ _ => (g_name (i := 1) sc_is_name.nd)) (fun _ _ _ _ _ => ts_nil) (fun _ _ _ _ _ => (e_cmp2 (op_inM hr.u65) (e_var 1) (e_gS T.c_LETTERS)))) a_nil)))))
theorem fg_is_name (T : Txt P K mg) : FnG P w K mg base (ga K) 1 (ga K "is_name") [] h_is_name := by
  obtain ⟨fd, F⟩ := T.f_is_name
  exact fg_of (N := N_is_name) (ps := ["value"]) F sc_is_name (bndM_N F fun _ _ _ _ _ _ us hl => match us, hl with | [_], _ => rfl) fun cdv A outer s H E hr => jb_is_name T cdv A outer s H E hr
/-! ### is_step -/
abbrev N_is_step : List Str := ["value"]
theorem sc_is_step : FnScope N_is_step ["value"] (defScope s_is_step) := ⟨rfl, rfl, rfl, by decide +kernel, rfl, by decide +kernel, by decide +kernel⟩
theorem jb_is_step (T : Txt P K mg) (cdv : Value) (A : Around) (outer : List Env) (s : Shared) (H : Hp) (E : XK) (hr : RoomG 1 (A.deeper (envOfC "is_step" (defScope s_is_step) s.heap.objs.size (ga K "is_step") cdv))) : JSs (CtxOf P w K mg base N_is_step "is_step" (defScope s_is_step) (ga K "is_step") cdv A outer s H E) (ga K) (WB E) (defBody s_is_step) b_is_step := by
  exact (s_one (s_ret (e_and (e_isi (e_var 0) (pe_tyn T.n_tuple bt_tuple) (.ty "tuple") isTab_tuple T.n_isinstance) (e_and (e_cmp2 (op_eqM hr.u64) (e_callB (call_lenM) T.n_len bt_len (a_cons (e_var 0) a_nil)) e_int) (e_and (e_cmp2 (op_inM hr.u65) (e_ix hr.u1 (e_var 0) e_int) (e_gT T.g_STEPS T.t_STEPS)) (e_one (e_call (cm_fn (fg_is_name T) (hr.mono (by decide)) takesB) T.g_is_name T.k_is_name (a_cons (e_ix hr.u1 (e_var 0) e_int) a_nil))))))))
theorem fg_is_step (T : Txt P K mg) : FnG P w K mg base (ga K) 2 (ga K "is_step") [] h_is_step := by
  obtain ⟨fd, F⟩ := T.f_is_step
  exact fg_of (N := N_is_step) (ps := ["value"]) F sc_is_step (bndM_N F fun _ _ _ _ _ _ us hl => match us, hl with | [_], _ => rfl) fun cdv A outer s H E hr => jb_is_step T cdv A outer s H E hr
/-! ### require_steps -/
abbrev N_require_steps : List Str := ["steps", "index", "step"]
theorem sc_require_steps : FnScope N_require_steps ["steps"] (defScope s_require_steps) := ⟨rfl, rfl, rfl, by decide +kernel, rfl, by decide +kernel, by decide +kernel⟩
theorem jb_require_steps (T : Txt P K mg) (cdv : Value) (A : Around) (outer : List Env) (s : Shared) (H : Hp) (E : XK) (hr : RoomG 4 (A.deeper (envOfC "require_steps" (defScope s_require_steps) s.heap.objs.size (ga K "require_steps") cdv))) : JSs (CtxOf P w K mg base N_require_steps "require_steps" (defScope s_require_steps) (ga K "require_steps") cdv A outer s H E) (ga K) (WB E) (defBody s_require_steps) b_require_steps := by
  exact (s_cons (s_for passB rfl (i_enum (e_var 0) T.n_enumerate) (g_tup rfl (gs_cons (g_name (i := 1) sc_require_steps.nd) (gs_cons (g_name (i := 2) sc_require_steps.nd) gs_nil)) (gsCons_len (gsCons_len gsNil_len))) (s_one (s_if (t_not (t_val (e_call (cm_fn (fg_is_step T) (hr.mono (by decide)) takesB) T.g_is_step T.k_is_step (a_cons (e_var 2) a_nil)))) (s_one (s_raise (c := "InvalidStep") rfl takesB T.x_InvalidStep T.g_InvalidStep T.n_super T.top_super hr.room (e_var 1))) s_nil))) (s_cons (s_if (t_cmp2 op_gtM (e_callB (call_lenM) T.n_len bt_len (a_cons (e_var 0) a_nil)) (e_gI T.c_MOST_STEPS)) (s_one (s_raise (c := "InvalidStep") rfl takesB T.x_InvalidStep T.g_InvalidStep T.n_super T.top_super hr.room e_non)) s_nil) (s_cons (s_set (i := 1) (e_call (cm_fn (fg_lock_fault T) (hr.mono (by decide)) takesB) T.g_lock_fault T.k_lock_fault (a_cons (e_var 0) a_nil)) sc_require_steps.nd) (s_one (s_if (t_cmp2 op_isNotM (e_var 1) e_non) (s_one (s_raise (c := "InvalidStep") rfl takesB T.x_InvalidStep T.g_InvalidStep T.n_super T.top_super hr.room (e_var 1))) s_nil)))))
theorem fg_require_steps (T : Txt P K mg) : FnG P w K mg base (ga K) 5 (ga K "require_steps") [] h_require_steps := by
  obtain ⟨fd, F⟩ := T.f_require_steps
  exact fg_of (N := N_require_steps) (ps := ["steps"]) F sc_require_steps (bndM_N F fun _ _ _ _ _ _ us hl => match us, hl with | [_], _ => rfl) fun cdv A outer s H E hr => jb_require_steps T cdv A outer s H E hr
/-! ### Row.__init__ -/
abbrev N_Row___init__ : List Str := ["self", "steps"]
theorem sc_Row___init__ : FnScope N_Row___init__ ["self", "steps"] (defScope s_Row___init__) := ⟨rfl, rfl, rfl, by decide +kernel, rfl, by decide +kernel, by decide +kernel⟩
theorem jb_Row___init__ (T : Txt P K mg) (cdv : Value) (A : Around) (outer : List Env) (s : Shared) (H : Hp) (E : XK) (hr : RoomG 5 (A.deeper (envOfC "Row.__init__" (defScope s_Row___init__) s.heap.objs.size (ma K (ga K "Row") "__init__") cdv))) : JSs (CtxOf P w K mg base N_Row___init__ "Row.__init__" (defScope s_Row___init__) (ma K (ga K "Row") "__init__") cdv A outer s H E) (ga K) (WB E) (defBody s_Row___init__) b_Row___init__ := by
  exact (s_cons (s_expr (e_call (cm_fn (fg_require_steps T) (hr.mono (by decide)) takesB) T.g_require_steps T.k_require_steps (a_cons (e_var 1) a_nil))) (s_one (s_setF (cs := ["Row"]) (e_var 1) (e_var 0) (two_c ⟨T.cl_Row, T.na_Row_own_steps⟩ no_c))))
theorem fg_Row___init__ (T : Txt P K mg) : FnG P w K mg base (ga K) 6 (ma K (ga K "Row") "__init__") [] h_Row___init__ := by
  obtain ⟨fd, F⟩ := T.f_Row___init__
  exact fg_star (N := N_Row___init__) (ps := ["self"]) (pv := "steps") F sc_Row___init__ (fun _ _ _ _ _ _ us rest hl => match us, rest, hl with | [_], [], _ => rfl | [_], _ :: _, _ => rfl) fun cdv A outer s H E hr => jb_Row___init__ T cdv A outer s H E hr
/-! ### require_stock -/
abbrev N_require_stock : List Str := ["stock", "step"]
theorem sc_require_stock : FnScope N_require_stock ["stock"] (defScope s_require_stock) := ⟨rfl, rfl, rfl, by decide +kernel, rfl, by decide +kernel, by decide +kernel⟩
theorem jb_require_stock (T : Txt P K mg) (cdv : Value) (A : Around) (outer : List Env) (s : Shared) (H : Hp) (E : XK) (hr : RoomG 2 (A.deeper (envOfC "require_stock" (defScope s_require_stock) s.heap.objs.size (ga K "require_stock") cdv))) : JSs (CtxOf P w K mg base N_require_stock "require_stock" (defScope s_require_stock) (ga K "require_stock") cdv A outer s H E) (ga K) (WB E) (defBody s_require_stock) b_require_stock := by
  exact (s_cons (s_if (t_pt (t_or (t_not (t_val (e_isi (e_var 0) (pe_tyn T.n_list bt_list) (.ty "list") isTab_list T.n_isinstance))) (t_or1 (t_not (t_chain op_leM opM_of op_leM opM_of ord_pure e_int (e_callB (call_lenM) T.n_len bt_len (a_cons (e_var 0) a_nil)) (e_gI T.c_MOST_STOCK)))))) (s_one (s_raise (c := "InvalidStock") rfl takesB T.x_InvalidStock T.g_InvalidStock T.n_super T.top_super hr.room (e_var 0))) s_nil) (s_one (s_if (t_pt (t_or (t_not (t_val (e_callB (call_allM rfl) T.n_all bt_all (a_cons (e_lc rfl sc_require_stock.nd (own := [("step", 1)]) (i_seq (e_var 0)) (blkOk_by (N := N_require_stock) (sc := defScope s_require_stock) (own := [("step", 1)]) (by decide +kernel)) (fun _ _ _ _ _ => (g_name (i := 1) sc_require_stock.nd)) (fun _ _ _ _ _ => ts_nil) (fun _ _ _ _ _ => (e_call (cm_fn (fg_is_step T) (hr.mono (by decide)) takesN) T.g_is_step T.k_is_step (a_cons (e_var 1) a_nil)))) a_nil)))) (t_or1 (t_cmp2 (op_neM hr.u64) (e_lenset rfl hr.u64 (e_var 0) T.n_len T.n_set) (e_callB (call_lenM) T.n_len bt_len (a_cons (e_var 0) a_nil)))))) (s_one (s_raise (c := "InvalidStock") rfl takesB T.x_InvalidStock T.g_InvalidStock T.n_super T.top_super hr.room (e_var 0))) s_nil)))
theorem fg_require_stock (T : Txt P K mg) : FnG P w K mg base (ga K) 3 (ga K "require_stock") [] h_require_stock := by
  obtain ⟨fd, F⟩ := T.f_require_stock
  exact fg_of (N := N_require_stock) (ps := ["stock"]) F sc_require_stock (bndM_N F fun _ _ _ _ _ _ us hl => match us, hl with | [_], _ => rfl) fun cdv A outer s H E hr => jb_require_stock T cdv A outer s H E hr
/-! ### rows_of -/
abbrev N_rows_of : List Str := ["stock", "longest", "line", "turn", "chosen", "steps", "index"]
theorem sc_rows_of : GScope N_rows_of ["stock", "longest"] (defScope s_rows_of) := ⟨rfl, rfl, rfl, by decide +kernel, rfl, by decide +kernel, by decide +kernel⟩
theorem fg_rows_of (T : Txt P K mg) : FnY P w K mg base (ga K) 8 2 (ga K "rows_of") h_rows_of := by
  obtain ⟨fd, F⟩ := T.f_rows_of
  refine fy_of (N := N_rows_of) (ps := ["stock", "longest"]) F sc_rows_of (fun _ _ _ _ _ _ us hl => match us, hl with | [_, _], _ => rfl) fun cdv A outer s H r PV Dx pr mono own hr => ?_
  exact (gq_cons (gq_pl fun cp => (s_expr (e_call (cm_fn (fg_require_stock T) (hr.mono (by decide)) takesQ) T.g_require_stock T.k_require_stock (a_cons (e_var 0) a_nil)))) (gq_cons (gq_pl fun cp => (s_expr (e_call (cm_fn (fg_require_number T) (hr.mono (by decide)) takesQ) T.g_require_number T.k_require_number (a_cons (e_var 1) (a_cons (e_gI T.c_MOST_STOCK) a_nil))))) (gq_cons (gq_pl fun cp => (s_set (i := 2) (e_lstC (a_cons (e_tup a_nil) a_nil)) sc_rows_of.nd)) (gq_cons (gq_for (fun cp => passQ) rfl (fun cp => (i_range1 (e_bin2 op_addM (e_var 1) e_int) T.n_range)) (fun cp => (g_name (i := 3) sc_rows_of.nd)) (gq_cons (gq_for (fun cp => passQ) rfl (fun cp => (i_seq (e_var 2))) (fun cp => (g_name (i := 4) sc_rows_of.nd)) (gq_cons (gq_pl fun cp => (s_setLc (i := 5) rfl sc_rows_of.nd rfl rfl (sw_true rfl rfl rfl (by decide +kernel)) (own := [("index", 6)]) (i_seq (e_var 4)) (blkOk_by (N := N_rows_of) (sc := defScope s_rows_of) (own := [("index", 6)]) (by decide +kernel)) (fun _ _ _ _ _ => (g_name (i := 6) sc_rows_of.nd)) (fun _ _ _ _ _ => ts_nil) (fun _ _ _ _ _ => (e_ix hr.u1 (e_var 0) (e_var 6))))) (gq_cons (gq_if (fun cp => (t_val (e_call (cm_fn (fg_is_balanced T) (hr.mono (by decide)) takesQ) T.g_is_balanced T.k_is_balanced (a_cons (e_var 5) a_nil)))) (gq_cons (gq_yield fun cp => (e_callS1 (cm_make T.mk_Row (fg_Row___init__ T) (hr.mono (by decide)) takesQ) T.g_Row T.k_Row (e_var 5))) gq_nil) gq_nil) gq_nil))) (gq_cons (gq_pl fun cp => (s_setLc2 (i := 2) rfl sc_rows_of.nd rfl rfl (sw_true rfl rfl rfl (by decide +kernel)) (own := [("chosen", 4), ("index", 6)]) (vs1 := [6]) (i_seq (e_var 2)) (blkOk_by (N := N_rows_of) (sc := defScope s_rows_of) (own := [("chosen", 4), ("index", 6)]) (by decide +kernel)) (by decide) (fun _ _ _ _ _ => (g_name (i := 4) sc_rows_of.nd)) (fun _ _ _ _ _ => ts_nil) (fun _ _ _ _ _ => (i_range1 (e_callB (call_lenM) T.n_len bt_len (a_cons (e_var 0) a_nil)) T.n_range)) (fun _ _ _ _ _ => (g_name (i := 6) sc_rows_of.nd)) (fun _ _ _ _ _ => (ts_one (t_cmp2 (op_notInM hr.u65) (e_var 6) (e_var 4)))) (fun _ _ _ _ _ => (e_tup (a_star (e_var 4) (a_cons (e_var 6) a_nil)))))) gq_nil))) gq_nil))))
/-! ### _law_rows -/
abbrev N__law_rows : List Str := ["_law_stock", "_law_longest", "_law_row", "e"]
theorem sc__law_rows : FnScope N__law_rows ["_law_stock", "_law_longest"] (defScope s__law_rows) := ⟨rfl, rfl, rfl, by decide +kernel, rfl, by decide +kernel, by decide +kernel⟩
theorem jb__law_rows (T : Txt P K mg) (cdv : Value) (A : Around) (outer : List Env) (s : Shared) (H : Hp) (E : XK) (hr : RoomG 9 (A.deeper (envOfC "_law_rows" (defScope s__law_rows) s.heap.objs.size (ga K "_law_rows") cdv))) : JSs (CtxOf P w K mg base N__law_rows "_law_rows" (defScope s__law_rows) (ga K "_law_rows") cdv A outer s H E) (ga K) (WB E) (defBody s__law_rows) b__law_rows := by
  exact (s_one (s_try rfl rfl sc__law_rows.nd takesB (fun W pn xe tk hp => (s_one (s_ret (e_lcG (c := "Row") (fld := "own_steps") (xs := ["InvalidStock", "InvalidNumber", "InvalidStep"]) T.tl_Row_steps (fg_rows_of T) (hr.mono (by decide)) rfl rfl tk (two_c T.stop_InvalidStock (two_c T.stop_InvalidNumber (two_c T.stop_InvalidStep no_c))) T.g_rows_of T.k_rows_of (a_cons (e_var 0) (a_cons (e_var 1) a_nil)))))) (.as_ (i := 3) ⟨rfl, by decide, .inl T.g_InvalidStock⟩ rfl rfl (tb_cons T.exm_InvalidStep_InvalidStock (tb_cons T.exm_InvalidStock_InvalidStock (tb_cons T.exm_InvalidNumber_InvalidStock tb_nil))) (h_ret (h_lst (h_cons h_str (h_cons (h_repr hr.gd hr.u66 (h_fld (cs := ["InvalidStock", "InvalidNumber"]) (i := 3) rfl rfl (two_c ⟨T.xf_InvalidStock, T.xno_InvalidStock_value⟩ (two_c ⟨T.xf_InvalidNumber, T.xno_InvalidNumber_value⟩ no_c))) T.n_repr) h_nil)))) (.as_ (i := 3) ⟨rfl, by decide, .inl T.g_InvalidNumber⟩ rfl rfl (tb_cons T.exm_InvalidStep_InvalidNumber (tb_cons T.exm_InvalidStock_InvalidNumber (tb_cons T.exm_InvalidNumber_InvalidNumber tb_nil))) (h_ret (h_lst (h_cons h_str (h_cons (h_repr hr.gd hr.u66 (h_fld (cs := ["InvalidStock", "InvalidNumber"]) (i := 3) rfl rfl (two_c ⟨T.xf_InvalidStock, T.xno_InvalidStock_value⟩ (two_c ⟨T.xf_InvalidNumber, T.xno_InvalidNumber_value⟩ no_c))) T.n_repr) h_nil)))) .nil))))
theorem fg__law_rows (T : Txt P K mg) : FnG P w K mg base (ga K) 10 (ga K "_law_rows") [] h__law_rows := by
  obtain ⟨fd, F⟩ := T.f__law_rows
  exact fg_of (N := N__law_rows) (ps := ["_law_stock", "_law_longest"]) F sc__law_rows (bndM_N F fun _ _ _ _ _ _ us hl => match us, hl with | [_, _], _ => rfl) fun cdv A outer s H E hr => jb__law_rows T cdv A outer s H E hr
/-! ### _law_refused -/
abbrev N__law_refused : List Str := ["_law_stock", "_law_row", "_law_some", "_law_odd", "_law_many", "_law_name"]
theorem sc__law_refused : FnScope N__law_refused ["_law_stock", "_law_row"] (defScope s__law_refused) := ⟨rfl, rfl, rfl, by decide +kernel, rfl, by decide +kernel, by decide +kernel⟩
theorem jb__law_refused (T : Txt P K mg) (cdv : Value) (A : Around) (outer : List Env) (s : Shared) (H : Hp) (E : XK) (hr : RoomG 10 (A.deeper (envOfC "_law_refused" (defScope s__law_refused) s.heap.objs.size (ga K "_law_refused") cdv))) : JSs (CtxOf P w K mg base N__law_refused "_law_refused" (defScope s__law_refused) (ga K "_law_refused") cdv A outer s H E) (ga K) (WB E) (defBody s__law_refused) b__law_refused := by
  exact (s_cons (s_set (i := 2) (e_lstC (a_cons e_non (a_cons (e_lstC a_nil) (a_cons (e_callT (call_tupleM) T.n_tuple bt_tuple (a_cons (e_var 0) a_nil)) (a_cons (e_bin2 op_addM (e_var 0) (e_sl (e_var 0) o_none (o_some e_int))) (a_cons (e_lstC (a_cons e_non a_nil)) (a_cons (e_bin2 op_addM (e_sl (e_var 0) o_none (o_some e_int)) (e_lstC (a_cons (e_tup (a_cons e_str a_nil)) a_nil))) (a_cons (e_lstC (a_cons e_str a_nil)) a_nil)))))))) sc__law_refused.nd) (s_cons (s_for passB rfl (i_seq (e_bin2 op_addM (e_var 2) (e_lstC (a_cons (e_lstC (a_cons (e_callT (call_listM) T.n_list bt_list (a_cons (e_ix hr.u1 (e_var 0) e_int) a_nil)) a_nil)) a_nil)))) (g_name (i := 3) sc__law_refused.nd) (s_one (s_if (t_cmp2 (op_neM hr.u64) (e_call (cm_fn (fg__law_rows T) (hr.mono (by decide)) takesB) T.g__law_rows T.k__law_rows (a_cons (e_var 3) (a_cons (e_neg e_int) a_nil))) (e_lstC (a_cons e_str (a_cons (e_callB (call_reprM hr.gd hr.u66) T.n_repr bt_repr (a_cons (e_var 3) a_nil)) a_nil)))) (s_one (s_ret e_bl)) s_nil))) (s_cons (s_setLc (i := 4) rfl sc__law_refused.nd rfl rfl (sw_true rfl rfl rfl (by decide +kernel)) (own := [("_law_name", 5)]) (i_seq (e_lstC (a_cons e_str (a_cons e_str (a_cons e_str (a_cons e_str (a_cons e_str (a_cons e_str (a_cons e_str a_nil))))))))) (blkOk_by (N := N__law_refused) (sc := defScope s__law_refused) (own := [("_law_name", 5)]) (by decide +kernel)) (fun _ _ _ _ _ => (g_name (i := 5) sc__law_refused.nd)) (fun _ _ _ _ _ => ts_nil) (fun _ _ _ _ _ => (e_tup (a_cons e_str (a_cons (e_var 5) a_nil))))) (s_cons (s_if (t_pt (t_or (t_cmp2 (op_neM hr.u64) (e_call (cm_fn (fg__law_rows T) (hr.mono (by decide)) takesB) T.g__law_rows T.k__law_rows (a_cons (e_var 4) (a_cons e_int a_nil))) (e_lstC (a_cons e_str (a_cons (e_callB (call_reprM hr.gd hr.u66) T.n_repr bt_repr (a_cons (e_var 4) a_nil)) a_nil)))) (t_or1 (t_cmp2 (op_neM hr.u64) (e_callB (call_lenM) T.n_len bt_len (a_cons (e_call (cm_fn (fg__law_rows T) (hr.mono (by decide)) takesB) T.g__law_rows T.k__law_rows (a_cons (e_sl (e_var 4) o_none (o_some e_int)) (a_cons e_int a_nil))) a_nil)) e_int)))) (s_one (s_ret e_bl)) s_nil) (s_cons (s_for passB rfl (i_seq (e_lstC (a_cons (e_neg e_int) (a_cons e_int (a_cons e_bl (a_cons e_non (a_cons e_str a_nil))))))) (g_name (i := 3) sc__law_refused.nd) (s_one (s_if (t_cmp2 (op_neM hr.u64) (e_call (cm_fn (fg__law_rows T) (hr.mono (by decide)) takesB) T.g__law_rows T.k__law_rows (a_cons (e_var 0) (a_cons (e_var 3) a_nil))) (e_lstC (a_cons e_str (a_cons (e_callB (call_reprM hr.gd hr.u66) T.n_repr bt_repr (a_cons (e_var 3) a_nil)) a_nil)))) (s_one (s_ret e_bl)) s_nil))) (s_cons (s_for passB rfl (i_seq (e_lstC (a_cons (e_neg e_int) (a_cons e_int (a_cons e_bl (a_cons e_non (a_cons e_str (a_cons (e_bin2 op_powM e_int e_int) a_nil)))))))) (g_name (i := 3) sc__law_refused.nd) (s_one (s_if (t_pt (t_or (t_cmp2 (op_neM hr.u64) (e_call (cm_fn (fg__law_price T) (hr.mono (by decide)) takesB) T.g__law_price T.k__law_price (a_cons (e_var 1) (a_cons (e_var 3) (a_cons (e_neg e_int) a_nil)))) (e_lstC (a_cons e_str (a_cons (e_callB (call_reprM hr.gd hr.u66) T.n_repr bt_repr (a_cons (e_var 3) a_nil)) a_nil)))) (t_or1 (t_cmp2 (op_neM hr.u64) (e_call (cm_fn (fg__law_price T) (hr.mono (by decide)) takesB) T.g__law_price T.k__law_price (a_cons (e_var 1) (a_cons e_int (a_cons (e_var 3) a_nil)))) (e_lstC (a_cons e_str (a_cons (e_callB (call_reprM hr.gd hr.u66) T.n_repr bt_repr (a_cons (e_var 3) a_nil)) a_nil))))))) (s_one (s_ret e_bl)) s_nil))) (s_one (s_ret e_bl))))))))
theorem fg__law_refused (T : Txt P K mg) : FnG P w K mg base (ga K) 11 (ga K "_law_refused") [] h__law_refused := by
  obtain ⟨fd, F⟩ := T.f__law_refused
  exact fg_of (N := N__law_refused) (ps := ["_law_stock", "_law_row"]) F sc__law_refused (bndM_N F fun _ _ _ _ _ _ us hl => match us, hl with | [_, _], _ => rfl) fun cdv A outer s H E hr => jb__law_refused T cdv A outer s H E hr
/-! ### Row.parts_of -/
abbrev N_Row_parts_of : List Str := ["self", "other"]
theorem sc_Row_parts_of : FnScope N_Row_parts_of ["self", "other"] (defScope s_Row_parts_of) := ⟨rfl, rfl, rfl, by decide +kernel, rfl, by decide +kernel, by decide +kernel⟩
theorem jb_Row_parts_of (T : Txt P K mg) (cdv : Value) (A : Around) (outer : List Env) (s : Shared) (H : Hp) (E : XK) (hr : RoomG 0 (A.deeper (envOfC "Row.parts_of" (defScope s_Row_parts_of) s.heap.objs.size (ma K (ga K "Row") "parts_of") cdv))) : JSs (CtxOf P w K mg base N_Row_parts_of "Row.parts_of" (defScope s_Row_parts_of) (ma K (ga K "Row") "parts_of") cdv A outer s H E) (ga K) (WB E) (defBody s_Row_parts_of) b_Row_parts_of := by
  exact (s_cons (s_if (t_val (e_isi (tb := [(.o "Row", true), (.b "NoneType", false), (.b "bool", false), (.b "int", false), (.b "str", false), (.b "tuple", false), (.b "list", false)]) (e_var 1) (pe_own T.g_Row) (.own _) (isTab_o T.ik_Row T.kit_Row_Row (isTab_b T.kit_NoneType_Row (isTab_b T.kit_bool_Row (isTab_b T.kit_int_Row (isTab_b T.kit_str_Row (isTab_b T.kit_tuple_Row (isTab_b T.kit_list_Row isTab_nil))))))) T.n_isinstance)) (s_one (s_ret (e_fld (cs := ["Row"]) (e_var 1) (two_c ⟨T.cl_Row, T.na_Row_own_steps⟩ no_c)))) s_nil) (s_cons (s_if (t_not (t_val (e_isi (e_var 1) (pe_tyn T.n_tuple bt_tuple) (.ty "tuple") isTab_tuple T.n_isinstance))) (s_one (s_raise (c := "InvalidStep") rfl takesB T.x_InvalidStep T.g_InvalidStep T.n_super T.top_super hr.room e_non)) s_nil) (s_one (s_ret (e_var 1)))))
theorem fg_Row_parts_of (T : Txt P K mg) : FnG P w K mg base (ga K) 1 (ma K (ga K "Row") "parts_of") [] h_Row_parts_of := by
  obtain ⟨fd, F⟩ := T.f_Row_parts_of
  exact fg_of (N := N_Row_parts_of) (ps := ["self", "other"]) F sc_Row_parts_of (bndM_N F fun _ _ _ _ _ _ us hl => match us, hl with | [_, _], _ => rfl) fun cdv A outer s H E hr => jb_Row_parts_of T cdv A outer s H E hr
/-! ### Row.__add__ -/
abbrev N_Row___add__ : List Str := ["self", "other", "found"]
theorem sc_Row___add__ : FnScope N_Row___add__ ["self", "other"] (defScope s_Row___add__) := ⟨rfl, rfl, rfl, by decide +kernel, rfl, by decide +kernel, by decide +kernel⟩
theorem jb_Row___add__ (T : Txt P K mg) (cdv : Value) (A : Around) (outer : List Env) (s : Shared) (H : Hp) (E : XK) (hr : RoomG 7 (A.deeper (envOfC "Row.__add__" (defScope s_Row___add__) s.heap.objs.size (ma K (ga K "Row") "__add__") cdv))) : JSs (CtxOf P w K mg base N_Row___add__ "Row.__add__" (defScope s_Row___add__) (ma K (ga K "Row") "__add__") cdv A outer s H E) (ga K) (WB E) (defBody s_Row___add__) b_Row___add__ := by
  exact (s_cons (s_set (i := 2) (e_bin2 op_addM (e_fld (cs := ["Row"]) (e_var 0) (two_c ⟨T.cl_Row, T.na_Row_own_steps⟩ no_c)) (e_meth (.cons T.cl_Row T.m_Row_parts_of (cm_fn (fg_Row_parts_of T) (hr.mono (by decide)) takesB) .nil) (e_var 0) (a_cons (e_var 1) a_nil))) sc_Row___add__.nd) (s_one (s_ret (e_callS1 (cm_make T.mk_Row (fg_Row___init__ T) (hr.mono (by decide)) takesB) T.g_Row T.k_Row (e_var 2)))))
theorem fg_Row___add__ (T : Txt P K mg) : FnG P w K mg base (ga K) 8 (ma K (ga K "Row") "__add__") [] h_Row___add__ := by
  obtain ⟨fd, F⟩ := T.f_Row___add__
  exact fg_of (N := N_Row___add__) (ps := ["self", "other"]) F sc_Row___add__ (bndM_N F fun _ _ _ _ _ _ us hl => match us, hl with | [_, _], _ => rfl) fun cdv A outer s H E hr => jb_Row___add__ T cdv A outer s H E hr
/-! ### _law_balanced -/
abbrev N__law_balanced : List Str := ["_law_steps", "_law_own", "_law_at", "_law_word", "_law_name"]
theorem sc__law_balanced : FnScope N__law_balanced ["_law_steps"] (defScope s__law_balanced) := ⟨rfl, rfl, rfl, by decide +kernel, rfl, by decide +kernel, by decide +kernel⟩
theorem jb__law_balanced (T : Txt P K mg) (cdv : Value) (A : Around) (outer : List Env) (s : Shared) (H : Hp) (E : XK) (hr : RoomG 0 (A.deeper (envOfC "_law_balanced" (defScope s__law_balanced) s.heap.objs.size (ga K "_law_balanced") cdv))) : JSs (CtxOf P w K mg base N__law_balanced "_law_balanced" (defScope s__law_balanced) (ga K "_law_balanced") cdv A outer s H E) (ga K) (WB E) (defBody s__law_balanced) b__law_balanced := by
  exact (s_cons (s_set (i := 1) (e_lstC a_nil) sc__law_balanced.nd) (s_cons (s_for passB rfl (i_enum (e_var 0) T.n_enumerate) (g_tup rfl (gs_cons (g_name (i := 2) sc__law_balanced.nd) (gs_cons (g_tup rfl (gs_cons (g_name (i := 3) sc__law_balanced.nd) (gs_cons (g_name (i := 4) sc__law_balanced.nd) gs_nil)) (gsCons_len (gsCons_len gsNil_len))) gs_nil)) (gsCons_len (gsCons_len gsNil_len))) (s_cons (s_if (t_pt (t_and (t_cmp2 (op_eqM hr.u64) (e_var 3) e_str) (t_and1 (t_pt (t_or (t_cmp2 (op_inM hr.u65) (e_var 4) (e_var 1)) (t_or1 (t_cmp2 (op_notInM hr.u65) (e_tup (a_cons e_str (a_cons (e_var 4) a_nil))) (e_sl (e_var 0) (o_some (e_bin2 op_addM (e_var 2) e_int)) o_none)))))))) (s_one (s_ret e_bl)) s_nil) (s_cons (s_if (t_pt (t_and (t_cmp2 (op_eqM hr.u64) (e_var 3) e_str) (t_and1 (t_pt (t_or (t_cmp2 (op_eqM hr.u64) (e_var 1) (e_lstC a_nil)) (t_or1 (t_cmp2 (op_neM hr.u64) (e_ix hr.u1 (e_var 1) (e_neg e_int)) (e_var 4)))))))) (s_one (s_ret e_bl)) s_nil) (s_one (s_set (i := 1) (e_if (t_cmp2 (op_eqM hr.u64) (e_var 3) e_str) (e_bin2 op_addM (e_var 1) (e_lstC (a_cons (e_var 4) a_nil))) (e_if (t_cmp2 (op_eqM hr.u64) (e_var 3) e_str) (e_sl (e_var 1) o_none (o_some (e_neg e_int))) (e_var 1))) sc__law_balanced.nd))))) (s_one (s_ret e_bl))))
theorem fg__law_balanced (T : Txt P K mg) : FnG P w K mg base (ga K) 1 (ga K "_law_balanced") [] h__law_balanced := by
  obtain ⟨fd, F⟩ := T.f__law_balanced
  exact fg_of (N := N__law_balanced) (ps := ["_law_steps"]) F sc__law_balanced (bndM_N F fun _ _ _ _ _ _ us hl => match us, hl with | [_], _ => rfl) fun cdv A outer s H E hr => jb__law_balanced T cdv A outer s H E hr
/-! ### _law_listed -/
abbrev N__law_listed : List Str := ["_law_stock", "_law_longest", "_law_line", "_law_found", "_law_turn", "_law_more", "_law_row", "_law_step"]
theorem sc__law_listed : FnScope N__law_listed ["_law_stock", "_law_longest"] (defScope s__law_listed) := ⟨rfl, rfl, rfl, by decide +kernel, rfl, by decide +kernel, by decide +kernel⟩
theorem jb__law_listed (T : Txt P K mg) (cdv : Value) (A : Around) (outer : List Env) (s : Shared) (H : Hp) (E : XK) (hr : RoomG 1 (A.deeper (envOfC "_law_listed" (defScope s__law_listed) s.heap.objs.size (ga K "_law_listed") cdv))) : JSs (CtxOf P w K mg base N__law_listed "_law_listed" (defScope s__law_listed) (ga K "_law_listed") cdv A outer s H E) (ga K) (WB E) (defBody s__law_listed) b__law_listed := by
  exact (s_cons (s_par (i := 2) (j := 3) rfl sc__law_listed.nd (a_cons (e_lstC (a_cons (e_lstC a_nil) a_nil)) (a_cons (e_lstC (a_cons (e_lstC a_nil) a_nil)) a_nil))) (s_cons (s_for passB rfl (i_range1 (e_var 1) T.n_range) (g_name (i := 4) sc__law_listed.nd) (s_cons (s_set (i := 5) (e_lstC a_nil) sc__law_listed.nd) (s_cons (s_for passB rfl (i_seq (e_var 2)) (g_name (i := 6) sc__law_listed.nd) (s_one (s_set (i := 5) (e_bin2 op_addM (e_var 5) (e_lc rfl sc__law_listed.nd (own := [("_law_step", 7)]) (i_seq (e_var 0)) (blkOk_by (N := N__law_listed) (sc := defScope s__law_listed) (own := [("_law_step", 7)]) (by decide +kernel)) (fun _ _ _ _ _ => (g_name (i := 7) sc__law_listed.nd)) (fun _ _ _ _ _ => (ts_one (t_cmp2 (op_notInM hr.u65) (e_var 7) (e_var 6)))) (fun _ _ _ _ _ => (e_bin2 op_addM (e_var 6) (e_lstC (a_cons (e_var 7) a_nil)))))) sc__law_listed.nd))) (s_cons (s_set (i := 2) (e_var 5) sc__law_listed.nd) (s_one (s_set (i := 3) (e_bin2 op_addM (e_var 3) (e_var 2)) sc__law_listed.nd)))))) (s_one (s_ret (e_lc rfl sc__law_listed.nd (own := [("_law_row", 6)]) (i_seq (e_var 3)) (blkOk_by (N := N__law_listed) (sc := defScope s__law_listed) (own := [("_law_row", 6)]) (by decide +kernel)) (fun _ _ _ _ _ => (g_name (i := 6) sc__law_listed.nd)) (fun _ _ _ _ _ => (ts_one (t_val (e_call (cm_fn (fg__law_balanced T) (hr.mono (by decide)) takesN) T.g__law_balanced T.k__law_balanced (a_cons (e_var 6) a_nil))))) (fun _ _ _ _ _ => (e_var 6)))))))
theorem fg__law_listed (T : Txt P K mg) : FnG P w K mg base (ga K) 2 (ga K "_law_listed") [] h__law_listed := by
  obtain ⟨fd, F⟩ := T.f__law_listed
  exact fg_of (N := N__law_listed) (ps := ["_law_stock", "_law_longest"]) F sc__law_listed (bndM_N F fun _ _ _ _ _ _ us hl => match us, hl with | [_, _], _ => rfl) fun cdv A outer s H E hr => jb__law_listed T cdv A outer s H E hr
/-! ### _law_draw -/
abbrev N__law_draw : List Str := ["_law_pool_here", "_law_many", "_law_at"]
theorem sc__law_draw : FnScope N__law_draw ["_law_pool_here", "_law_many"] (defScope s__law_draw) := ⟨rfl, rfl, rfl, by decide +kernel, rfl, by decide +kernel, by decide +kernel⟩
theorem jb__law_draw (T : Txt P K mg) (cdv : Value) (A : Around) (outer : List Env) (s : Shared) (H : Hp) (E : XK) (hr : RoomG 0 (A.deeper (envOfC "_law_draw" (defScope s__law_draw) s.heap.objs.size (ga K "_law_draw") cdv))) : JSs (CtxOf P w K mg base N__law_draw "_law_draw" (defScope s__law_draw) (ga K "_law_draw") cdv A outer s H E) (ga K) (WB E) (defBody s__law_draw) b__law_draw := by
  exact (s_cons (s_set (i := 2) (e_ix hr.u1 (e_var 0) e_int) sc__law_draw.nd) (s_cons (s_setIx (e_bin2 op_addM (e_var 2) e_int) (e_var 0) e_int) (s_one (s_ret (e_if (t_cmp2 op_ltM (e_var 2) (e_callB (call_lenM) T.n_len bt_len (a_cons (e_ix hr.u1 (e_var 0) e_int) a_nil))) (e_bin2 op_modM (e_callT (call_intM) T.n_int bt_int (a_cons (e_ix hr.u1 (e_ix hr.u1 (e_var 0) e_int) (e_var 2)) a_nil)) (e_var 1)) e_int)))))
theorem fg__law_draw (T : Txt P K mg) : FnG P w K mg base (ga K) 1 (ga K "_law_draw") [] h__law_draw := by
  obtain ⟨fd, F⟩ := T.f__law_draw
  exact fg_of (N := N__law_draw) (ps := ["_law_pool_here", "_law_many"]) F sc__law_draw (bndM_N F fun _ _ _ _ _ _ us hl => match us, hl with | [_, _], _ => rfl) fun cdv A outer s H E hr => jb__law_draw T cdv A outer s H E hr
/-! ### _law_pick -/
abbrev N__law_pick : List Str := ["_law_pool_here", "_law_some"]
theorem sc__law_pick : FnScope N__law_pick ["_law_pool_here", "_law_some"] (defScope s__law_pick) := ⟨rfl, rfl, rfl, by decide +kernel, rfl, by decide +kernel, by decide +kernel⟩
theorem jb__law_pick (T : Txt P K mg) (cdv : Value) (A : Around) (outer : List Env) (s : Shared) (H : Hp) (E : XK) (hr : RoomG 1 (A.deeper (envOfC "_law_pick" (defScope s__law_pick) s.heap.objs.size (ga K "_law_pick") cdv))) : JSs (CtxOf P w K mg base N__law_pick "_law_pick" (defScope s__law_pick) (ga K "_law_pick") cdv A outer s H E) (ga K) (WB E) (defBody s__law_pick) b__law_pick := by
  exact (s_one (s_ret (e_ix hr.u1 (e_var 1) (e_call (cm_fn (fg__law_draw T) (hr.mono (by decide)) takesB) T.g__law_draw T.k__law_draw (a_cons (e_var 0) (a_cons (e_callB (call_lenM) T.n_len bt_len (a_cons (e_var 1) a_nil)) a_nil))))))
theorem fg__law_pick (T : Txt P K mg) : FnG P w K mg base (ga K) 2 (ga K "_law_pick") [] h__law_pick := by
  obtain ⟨fd, F⟩ := T.f__law_pick
  exact fg_of (N := N__law_pick) (ps := ["_law_pool_here", "_law_some"]) F sc__law_pick (bndM_N F fun _ _ _ _ _ _ us hl => match us, hl with | [_, _], _ => rfl) fun cdv A outer s H E hr => jb__law_pick T cdv A outer s H E hr
/-! ### _law_drawn_stock -/
abbrev N__law_drawn_stock : List Str := ["_law_pool_here", "_law_words", "_law_found", "_law_turn", "_law_step"]
theorem sc__law_drawn_stock : FnScope N__law_drawn_stock ["_law_pool_here"] (defScope s__law_drawn_stock) := ⟨rfl, rfl, rfl, by decide +kernel, rfl, by decide +kernel, by decide +kernel⟩
theorem jb__law_drawn_stock (T : Txt P K mg) (cdv : Value) (A : Around) (outer : List Env) (s : Shared) (H : Hp) (E : XK) (hr : RoomG 2 (A.deeper (envOfC "_law_drawn_stock" (defScope s__law_drawn_stock) s.heap.objs.size (ga K "_law_drawn_stock") cdv))) : JSs (CtxOf P w K mg base N__law_drawn_stock "_law_drawn_stock" (defScope s__law_drawn_stock) (ga K "_law_drawn_stock") cdv A outer s H E) (ga K) (WB E) (defBody s__law_drawn_stock) b__law_drawn_stock := by
  exact (s_cons (s_set (i := 1) (e_lstC (a_cons e_str (a_cons e_str (a_cons e_str (a_cons e_str (a_cons e_str (a_cons e_str (a_cons e_str (a_cons e_str (a_cons e_str (a_cons e_str (a_cons e_str (a_cons e_str a_nil))))))))))))) sc__law_drawn_stock.nd) (s_cons (s_set (i := 2) (e_lstC a_nil) sc__law_drawn_stock.nd) (s_cons (s_for passB rfl (i_range1 (e_bin2 op_addM e_int (e_call (cm_fn (fg__law_draw T) (hr.mono (by decide)) takesB) T.g__law_draw T.k__law_draw (a_cons (e_var 0) (a_cons e_int a_nil)))) T.n_range) (g_name (i := 3) sc__law_drawn_stock.nd) (s_cons (s_set (i := 4) (e_tup (a_cons (e_call (cm_fn (fg__law_pick T) (hr.mono (by decide)) takesB) T.g__law_pick T.k__law_pick (a_cons (e_var 0) (a_cons (e_var 1) a_nil))) (a_cons (e_call (cm_fn (fg__law_pick T) (hr.mono (by decide)) takesB) T.g__law_pick T.k__law_pick (a_cons (e_var 0) (a_cons (e_lstC (a_cons e_str (a_cons e_str (a_cons e_str a_nil)))) a_nil))) a_nil))) sc__law_drawn_stock.nd) (s_one (s_set (i := 2) (e_bin2 op_addM (e_var 2) (e_bin2 op_mulM (e_lstC (a_cons (e_var 4) a_nil)) (e_callT (call_intM) T.n_int bt_int (a_cons (e_cmp2 (op_notInM hr.u65) (e_var 4) (e_var 2)) a_nil)))) sc__law_drawn_stock.nd)))) (s_cons (s_if (t_pt (t_and (t_cmp2 (op_eqM hr.u64) (e_call (cm_fn (fg__law_draw T) (hr.mono (by decide)) takesB) T.g__law_draw T.k__law_draw (a_cons (e_var 0) (a_cons e_int a_nil))) e_int) (t_and (t_cmp2 op_ltM (e_callB (call_lenM) T.n_len bt_len (a_cons (e_var 2) a_nil)) e_int) (t_and1 (t_cmp2 (op_notInM hr.u65) (e_tup (a_cons e_str (a_cons e_str a_nil))) (e_var 2)))))) (s_one (s_set (i := 2) (e_bin2 op_addM (e_bin2 op_addM (e_lstC (a_cons (e_tup (a_cons e_str (a_cons e_str a_nil))) a_nil)) (e_var 2)) (e_lstC (a_cons (e_tup (a_cons e_str (a_cons e_str a_nil))) a_nil))) sc__law_drawn_stock.nd)) s_nil) (s_one (s_ret (e_var 2)))))))
theorem fg__law_drawn_stock (T : Txt P K mg) : FnG P w K mg base (ga K) 3 (ga K "_law_drawn_stock") [] h__law_drawn_stock := by
  obtain ⟨fd, F⟩ := T.f__law_drawn_stock
  exact fg_of (N := N__law_drawn_stock) (ps := ["_law_pool_here"]) F sc__law_drawn_stock (bndM_N F fun _ _ _ _ _ _ us hl => match us, hl with | [_], _ => rfl) fun cdv A outer s H E hr => jb__law_drawn_stock T cdv A outer s H E hr
/-! ### _law_numbers -/
abbrev N__law_numbers : List Str := ["_law_cell", "_law_salt", "_law_sizes", "_law_whole", "_law_left", "_law_result", "_law_k", "_law_one"]
theorem sc__law_numbers : FnScope N__law_numbers ["_law_cell", "_law_salt", "_law_sizes"] (defScope s__law_numbers) := ⟨rfl, rfl, rfl, by decide +kernel, rfl, by decide +kernel, by decide +kernel⟩
theorem jb__law_numbers (T : Txt P K mg) (cdv : Value) (A : Around) (outer : List Env) (s : Shared) (H : Hp) (E : XK) (hr : RoomG 0 (A.deeper (envOfC "_law_numbers" (defScope s__law_numbers) s.heap.objs.size (ga K "_law_numbers") cdv))) : JSs (CtxOf P w K mg base N__law_numbers "_law_numbers" (defScope s__law_numbers) (ga K "_law_numbers") cdv A outer s H E) (ga K) (WB E) (defBody s__law_numbers) b__law_numbers := by
  exact (s_cons (s_set (i := 3) (e_callB (call_maxM rfl) T.n_max bt_max (a_cons (e_var 0) (a_cons (e_bin2 op_subM (e_neg e_int) (e_var 0)) a_nil))) sc__law_numbers.nd) (s_cons (s_set (i := 4) (e_var 3) sc__law_numbers.nd) (s_cons (s_set (i := 5) (e_lst a_nil) sc__law_numbers.nd) (s_cons (s_for passB rfl (i_range1 (e_callB (call_lenM) T.n_len bt_len (a_cons (e_var 2) a_nil)) T.n_range) (g_name (i := 6) sc__law_numbers.nd) (s_one (s_if (t_pt (t_and (t_cmp2 op_geM (e_var 3) (e_bin2 op_powM e_int e_int)) (t_and1 (t_cmp2 op_gtM (e_var 4) e_int)))) (s_cons (s_expr (e_mt PySem.F.plainAttrs_list PySem.F.slot_list_append PySem.F.type_list_append mt_appendM (e_var 5) (a_cons (e_bin2 op_modM (e_var 4) (e_ix hr.u1 (e_var 2) (e_var 6))) a_nil))) (s_one (s_set (i := 4) (e_bin2 op_divM (e_var 4) (e_ix hr.u1 (e_var 2) (e_var 6))) sc__law_numbers.nd))) (s_cons (s_set (i := 7) (e_bin2 op_modM (e_bin2 op_powM (e_bin2 op_addM (e_bin2 op_addM (e_bin2 op_modM (e_var 3) e_int) (e_bin2 op_mulM e_int (e_var 1))) e_int) e_int) e_int) sc__law_numbers.nd) (s_cons (s_set (i := 7) (e_bin2 op_modM (e_bin2 op_mulM (e_bin2 op_addM (e_var 7) (e_bin2 op_mulM e_int (e_bin2 op_addM (e_var 6) e_int))) (e_bin2 op_addM (e_var 6) e_int)) e_int) sc__law_numbers.nd) (s_cons (s_set (i := 7) (e_bin2 op_modM (e_bin2 op_mulM (e_bin2 op_modM (e_bin2 op_powM (e_var 7) e_int) e_int) e_int) e_int) sc__law_numbers.nd) (s_one (s_expr (e_mt PySem.F.plainAttrs_list PySem.F.slot_list_append PySem.F.type_list_append mt_appendM (e_var 5) (a_cons (e_bin2 op_modM (e_bin2 op_divM (e_var 7) e_int) (e_ix hr.u1 (e_var 2) (e_var 6))) a_nil)))))))))) (s_one (s_ret (e_lock (e_var 5))))))))
theorem fg__law_numbers (T : Txt P K mg) : FnG P w K mg base (ga K) 1 (ga K "_law_numbers") [] h__law_numbers := by
  obtain ⟨fd, F⟩ := T.f__law_numbers
  exact fg_of (N := N__law_numbers) (ps := ["_law_cell", "_law_salt", "_law_sizes"]) F sc__law_numbers (bndM_N F fun _ _ _ _ _ _ us hl => match us, hl with | [_, _, _], _ => rfl) fun cdv A outer s H E hr => jb__law_numbers T cdv A outer s H E hr
/-! ### _law_pool -/
abbrev N__law_pool : List Str := ["_law_cell", "_law_salt", "_law_many"]
theorem sc__law_pool : FnScope N__law_pool ["_law_cell", "_law_salt", "_law_many"] (defScope s__law_pool) := ⟨rfl, rfl, rfl, by decide +kernel, rfl, by decide +kernel, by decide +kernel⟩
theorem jb__law_pool (T : Txt P K mg) (cdv : Value) (A : Around) (outer : List Env) (s : Shared) (H : Hp) (E : XK) (hr : RoomG 1 (A.deeper (envOfC "_law_pool" (defScope s__law_pool) s.heap.objs.size (ga K "_law_pool") cdv))) : JSs (CtxOf P w K mg base N__law_pool "_law_pool" (defScope s__law_pool) (ga K "_law_pool") cdv A outer s H E) (ga K) (WB E) (defBody s__law_pool) b__law_pool := by
  exact (s_one (s_ret (e_lst (a_cons (e_call (cm_fn (fg__law_numbers T) (hr.mono (by decide)) takesB) T.g__law_numbers T.k__law_numbers (a_cons (e_var 0) (a_cons (e_var 1) (a_cons (e_bin2 op_mulM (e_lstC (a_cons e_int a_nil)) (e_var 2)) a_nil)))) (a_cons e_int a_nil)))))
theorem fg__law_pool (T : Txt P K mg) : FnG P w K mg base (ga K) 2 (ga K "_law_pool") [] h__law_pool := by
  obtain ⟨fd, F⟩ := T.f__law_pool
  exact fg_of (N := N__law_pool) (ps := ["_law_cell", "_law_salt", "_law_many"]) F sc__law_pool (bndM_N F fun _ _ _ _ _ _ us hl => match us, hl with | [_, _, _], _ => rfl) fun cdv A outer s H E hr => jb__law_pool T cdv A outer s H E hr
/-! ### law -/
abbrev N_law : List Str := ["_law_script", "_law_k", "_law_cell", "_law_pool_here", "_law_stock", "_law_longest", "_law_one", "_law_other", "_law_found", "_law_kept", "_law_steps", "_law_waits", "_law_step", "_law_row", "_law_rest"]
theorem sc_law : FnScope N_law ["_law_script"] (defScope s_law) := ⟨rfl, rfl, rfl, by decide +kernel, rfl, by decide +kernel, by decide +kernel⟩
theorem jb_law (T : Txt P K mg) (cdv : Value) (A : Around) (outer : List Env) (s : Shared) (H : Hp) (E : XK) (hr : RoomG 11 (A.deeper (envOfC "law" (defScope s_law) s.heap.objs.size (ga K "law") cdv))) : JSs (CtxOf P w K mg base N_law "law" (defScope s_law) (ga K "law") cdv A outer s H E) (ga K) (WB E) (defBody s_law) b_law := by
  exact (s_cons (s_for passB rfl (i_enum (e_bin2 op_addM (e_sl (e_var 0) o_none (o_some e_int)) (e_bin2 op_mulM (e_lstC (a_cons e_int a_nil)) (e_callT (call_intM) T.n_int bt_int (a_cons (e_cmp2 (op_eqM hr.u64) (e_var 0) (e_lstC a_nil)) a_nil)))) T.n_enumerate) (g_tup rfl (gs_cons (g_name (i := 1) sc_law.nd) (gs_cons (g_name (i := 2) sc_law.nd) gs_nil)) (gsCons_len (gsCons_len gsNil_len))) (s_cons (s_set (i := 3) (e_call (cm_fn (fg__law_pool T) (hr.mono (by decide)) takesB) T.g__law_pool T.k__law_pool (a_cons (e_var 2) (a_cons (e_bin2 op_addM e_int (e_var 1)) (a_cons e_int a_nil)))) sc_law.nd) (s_cons (s_par (i := 4) (j := 5) rfl sc_law.nd (a_cons (e_call (cm_fn (fg__law_drawn_stock T) (hr.mono (by decide)) takesB) T.g__law_drawn_stock T.k__law_drawn_stock (a_cons (e_var 3) a_nil)) (a_cons (e_call (cm_fn (fg__law_draw T) (hr.mono (by decide)) takesB) T.g__law_draw T.k__law_draw (a_cons (e_var 3) (a_cons e_int a_nil))) a_nil))) (s_cons (s_set (i := 5) (e_if (t_cmp2 op_gtM (e_callB (call_lenM) T.n_len bt_len (a_cons (e_var 4) a_nil)) e_int) (e_callB (call_minM rfl) T.n_min bt_min (a_cons (e_var 5) (a_cons e_int a_nil))) (e_var 5)) sc_law.nd) (s_cons (s_par (i := 6) (j := 7) rfl sc_law.nd (a_cons (e_bin2 op_mulM (e_call (cm_fn (fg__law_draw T) (hr.mono (by decide)) takesB) T.g__law_draw T.k__law_draw (a_cons (e_var 3) (a_cons e_int a_nil))) e_int) (a_cons (e_call (cm_fn (fg__law_pick T) (hr.mono (by decide)) takesB) T.g__law_pick T.k__law_pick (a_cons (e_var 3) (a_cons (e_lstC (a_cons e_int (a_cons e_int (a_cons e_int (a_cons e_int a_nil))))) a_nil))) a_nil))) (s_cons (s_par (i := 8) (j := 9) rfl sc_law.nd (a_cons (e_call (cm_fn (fg__law_rows T) (hr.mono (by decide)) takesB) T.g__law_rows T.k__law_rows (a_cons (e_var 4) (a_cons (e_var 5) a_nil))) (a_cons (e_callT (call_listM) T.n_list bt_list (a_cons (e_var 4) a_nil)) a_nil))) (s_cons (s_if (t_pt (t_or (t_cmp2 (op_neM hr.u64) (e_var 8) (e_call (cm_fn (fg__law_listed T) (hr.mono (by decide)) takesB) T.g__law_listed T.k__law_listed (a_cons (e_var 4) (a_cons (e_var 5) a_nil)))) (t_or1 (t_cmp2 (op_neM hr.u64) (e_var 4) (e_var 9))))) (s_one (s_ret e_bl)) s_nil) (s_cons (s_for passB rfl (i_seq (e_sl (e_var 8) o_none (o_some e_int))) (g_name (i := 10) sc_law.nd) (s_cons (s_set (i := 11) (e_callB (call_lenM) T.n_len bt_len (a_cons (e_lc rfl sc_law.nd (own := [("_law_step", 12)]) (i_seq (e_var 10)) (blkOk_by (N := N_law) (sc := defScope s_law) (own := [("_law_step", 12)]) (by decide +kernel)) (fun _ _ _ _ _ => (g_name (i := 12) sc_law.nd)) (fun _ _ _ _ _ => (ts_one (t_cmp2 (op_inM hr.u65) (e_ix hr.u1 (e_var 12) e_int) (e_lstC (a_cons e_str (a_cons e_str (a_cons e_str a_nil))))))) (fun _ _ _ _ _ => (e_var 12))) a_nil)) sc_law.nd) (s_cons (s_set (i := 13) (e_binO2 (.cons (c := "Row") (ts := [.b "tuple"]) T.own_Row_add (ot_cons T.oth_Row_add_tuple ot_nil) (oi_b oi_nil) (cm_fn (fg_Row___add__ T) (hr.mono (by decide)) takesB) .nil) op_addM (e_call0 (cm_make T.mk_Row (fg_Row___init__ T) (hr.mono (by decide)) takesB) T.g_Row T.k_Row) (e_callT (call_tupleM) T.n_tuple bt_tuple (a_cons (e_var 10) a_nil))) sc_law.nd) (s_cons (s_set (i := 14) (e_bin2 op_subM (e_callB (call_lenM) T.n_len bt_len (a_cons (e_var 10) a_nil)) (e_var 11)) sc_law.nd) (s_cons (s_if (t_pt (t_or (t_cmp2 (op_neM hr.u64) (e_call (cm_fn (fg_price T) (hr.mono (by decide)) takesB) T.g_price T.k_price (a_cons (e_var 13) a_nil)) (e_bin2 op_addM (e_bin2 op_mulM e_int (e_var 11)) (e_var 14))) (t_or1 (t_cmp2 (op_neM hr.u64) (e_callK (ks := ["plain"]) (cm_fnK (fg_price_plain T) (hr.mono (by decide)) takesB) T.g_price T.k_price (a_cons (e_var 13) a_nil) (k_cons (e_var 7) k_nil) (hkl := (aCons_len aNil_len))) (e_bin2 op_addM (e_bin2 op_mulM e_int (e_var 11)) (e_bin2 op_mulM (e_var 7) (e_var 14))))))) (s_one (s_ret e_bl)) s_nil) (s_cons (s_if (t_cmp2 (op_neM hr.u64) (e_call (cm_fn (fg__law_price T) (hr.mono (by decide)) takesB) T.g__law_price T.k__law_price (a_cons (e_var 13) (a_cons (e_var 6) (a_cons (e_var 7) a_nil)))) (e_bin2 op_addM (e_bin2 op_mulM (e_var 6) (e_var 11)) (e_bin2 op_mulM (e_var 7) (e_var 14)))) (s_one (s_ret e_bl)) s_nil) (s_one (s_if (t_pt (t_and (t_cmp2 op_ltM (e_callB (call_lenM) T.n_len bt_len (a_cons (e_var 10) a_nil)) e_int) (t_and1 (t_cmp2 (op_neM hr.u64) (e_callK (ks := ["wait"]) (cm_fnK (fg_price_wait T) (hr.mono (by decide)) takesB) T.g_price T.k_price (a_cons (e_binO2 (.cons (c := "Row") (ts := [.o "Row"]) T.own_Row_add (ot_cons T.oth_Row_add_Row ot_nil) (oi_o T.ik_Row oi_nil) (cm_fn (fg_Row___add__ T) (hr.mono (by decide)) takesB) .nil) op_addM (e_var 13) (e_var 13)) a_nil) (k_cons (e_var 6) k_nil) (hkl := (aCons_len aNil_len))) (e_bin2 op_mulM e_int (e_callK (ks := ["wait"]) (cm_fnK (fg_price_wait T) (hr.mono (by decide)) takesB) T.g_price T.k_price (a_cons (e_var 13) a_nil) (k_cons (e_var 6) k_nil) (hkl := (aCons_len aNil_len)))))))) (s_one (s_ret e_bl)) s_nil)))))))) (s_one (s_if (t_not (t_val (e_call (cm_fn (fg__law_refused T) (hr.mono (by decide)) takesB) T.g__law_refused T.k__law_refused (a_cons (e_var 4) (a_cons (e_call0 (cm_make T.mk_Row (fg_Row___init__ T) (hr.mono (by decide)) takesB) T.g_Row T.k_Row) a_nil))))) (s_one (s_ret e_bl)) s_nil)))))))))) (s_one (s_ret e_bl)))
theorem fg_law (T : Txt P K mg) : FnG P w K mg base (ga K) 12 (ga K "law") [] h_law := by
  obtain ⟨fd, F⟩ := T.f_law
  exact fg_of (N := N_law) (ps := ["_law_script"]) F sc_law (bndM_N F fun _ _ _ _ _ _ us hl => match us, hl with | [_], _ => rfl) fun cdv A outer s H E hr => jb_law T cdv A outer s H E hr
end
end K55
end

section
set_option Elab.async false
set_option linter.all false
set_option maxRecDepth 100000
set_option maxHeartbeats 2000000
namespace K55
open PySem Mi L2
/-! ### steps -/
abbrev Step := Str × Str
def sm (p : Step) : MV := .tup [.str p.1, .str p.2]
def sl (ps : List Step) : List MV := ps.map sm
def sd (p : Step) : PyData := .tuple [.str p.1, .str p.2]
def okP (p : Step) : Prop := okS p.1 ∧ okS p.2
theorem sm_sd {p : Step} : sm p = mvD (sd p) := rfl
theorem sl_sd {ps : List Step} : sl ps = mvDs (ps.map sd) := by rw [mvDs_map, List.map_map]; rfl
theorem lay_sd {p : Step} (h : okP p) : (sd p).canLay0 = true := by
  have h1 : PyData.canLay0 (.str p.1) = true := h.1
  have h2 : PyData.canLay0 (.str p.2) = true := h.2
  simp only [sd, PyData.canLay0, PyData.canLayAll0] at h1 h2 ⊢
  rw [h1, h2]; rfl
theorem depth_sd {p : Step} : (sd p).depth = 1 := rfl
theorem lay_sds : ∀ {ps : List Step}, (∀ p ∈ ps, okP p) → PyData.canLayAll0 (ps.map sd) = true
  | [], _ => rfl
  | p :: ps, h => by rw [List.map_cons, PyData.canLayAll0, lay_sd (h p List.mem_cons_self), lay_sds fun z hz => h z (List.mem_cons_of_mem _ hz)]; rfl
theorem depth_sds : ∀ {ps : List Step}, PyData.depthAll (ps.map sd) ≤ 1
  | [] => Nat.zero_le _
  | p :: ps => by
    rw [List.map_cons, PyData.depthAll, depth_sd]
    have := depth_sds (ps := ps)
    omega
theorem eqv_sd {p q : Step} : PyData.eqv (sd p) (sd q) = (p == q) := by
  simp only [sd, PyData.eqv, PyData.eqvAll, Bool.and_true]
  rfl
theorem any_sd {p : Step} : ∀ {ps : List Step}, ((ps.map sd).any fun z => PyData.eqv z (sd p)) = ps.contains p
  | [] => rfl
  | q :: ps => by
    rw [List.map_cons, List.any_cons, any_sd, eqv_sd, List.contains_cons]
    congr 1
    by_cases h : q = p
    · rw [h]
    · rw [beq_eq_false_iff_ne.mpr h, beq_eq_false_iff_ne.mpr fun z => h z.symm]
section
variable {m : MH}
theorem eq_str {x y : Str} {neg : Bool} (hx : okS x) (hy : okS y) : Mi.eqO neg (.str x) (.str y) m = some (.bl (if neg then !(x == y) else x == y), m) := by
  have := eqO_mvD (m := m) (neg := neg) (d := .str x) (f := .str y) hx (Nat.zero_le _) hy (Nat.zero_le _)
  rw [eqv_str] at this
  exact this
theorem datS_tup {xs : List PyData} (h : PyData.canLayAll0 xs = true) (hd : PyData.depthAll xs ≤ 30) : datS m (.tup (mvDs xs)) = some (.tuple xs) := datS_mvD (d := .tuple xs) (by simpa [PyData.canLay0] using h) (by rw [PyData.depth]; omega)
theorem datS_con {xs : List PyData} (h : PyData.canLayAll0 xs = true) (hd : PyData.depthAll xs ≤ 30) : datS m (.con (mvDs xs)) = some (.list xs) := datS_mvD (d := .list xs) (by simpa [PyData.canLay0] using h) (by rw [PyData.depth]; omega)
theorem in_strs {x : Str} {ys : List Str} (hx : okS x) (hy : ∀ y ∈ ys, okS y) : inB (.str x) (.tup (ys.map .str)) m = some (ys.contains x) := by
  rw [← mvDs_strs]
  unfold inB
  rw [datS_tup (lay_strs hy) (by rw [depth_strs]; omega), show datS m (.str x) = some (.str x) from datS_mvD (d := .str x) hx (Nat.zero_le _)]
  simp only [any_str]
theorem in_tup {p : Step} {ps : List Step} (hx : okP p) (hy : ∀ y ∈ ps, okP y) : inB (.tup [.str p.1, .str p.2]) (.tup (sl ps)) m = some (ps.contains p) := by
  rw [sl_sd]
  unfold inB
  rw [datS_tup (lay_sds hy) (Nat.le_trans depth_sds (by omega)), show datS m (.tup [.str p.1, .str p.2]) = some (sd p) from datS_mvD (d := sd p) (lay_sd hx) (by rw [depth_sd]; omega)]
  simp only [any_sd]
theorem in_con {p : Step} {ps : List Step} (hx : okP p) (hy : ∀ y ∈ ps, okP y) : inB (.tup [.str p.1, .str p.2]) (.con (sl ps)) m = some (ps.contains p) := by
  rw [sl_sd]
  unfold inB
  rw [datS_con (lay_sds hy) (Nat.le_trans depth_sds (by omega)), show datS m (.tup [.str p.1, .str p.2]) = some (sd p) from datS_mvD (d := sd p) (lay_sd hx) (by rw [depth_sd]; omega)]
  simp only [any_sd]
/-- the locks' rule at one step -/
def isW (p : Step) (held own : List Str) (r : List Step) : Bool := if p.1 = "take" then held.contains p.2 || !(r.contains (("give" : Str), p.2)) else if p.1 = "give" then own.isEmpty || !(own.getLast? == some p.2) else false
theorem ok_take : okS "take" := by unfold okS; decide +kernel
theorem ok_give : okS "give" := by unfold okS; decide +kernel
theorem ok_piece : okS "piece" := by unfold okS; decide +kernel
theorem ok_test : okS "test" := by unfold okS; decide +kernel
theorem ok_choose : okS "choose" := by unfold okS; decide +kernel
theorem size2 : ([] : List MV).length + 1 + 1 ≤ sizeLine := by decide
theorem eq_empty {ys : List Str} (hy : ∀ y ∈ ys, okS y) : Mi.eqO false (.tup (ys.map .str)) (.tup []) m = some (.bl ys.isEmpty, m) := by
  rw [← mvDs_strs]
  have := eqO_mvD (m := m) (neg := false) (d := .tuple (ys.map .str)) (f := .tuple []) (by simpa [PyData.canLay0] using lay_strs hy) (by rw [PyData.depth, depth_strs]; decide) (by decide) (by decide)
  refine this.trans ?_
  cases ys <;> simp [PyData.eqv, PyData.eqvAll]
theorem eq_nil : Mi.eqO false (.tup []) (.tup []) m = some (.bl true, m) := rfl
theorem is_wrong_ok {p : Step} {held own : List Str} {r : List Step} (hp : okP p) (hh : ∀ y ∈ held, okS y) (ho : ∀ y ∈ own, okS y) (hr : ∀ q ∈ r, okP q) (hw : p.1 ≠ "piece") :
    h_is_wrong [sm p, .tup (held.map .str), .tup (own.map .str), .tup (sl r)] [] m = .ok (.bl (isW p held own r)) m := by
  have hg : okP (("give" : Str), p.2) := ⟨ok_give, hp.2⟩
  have z2 : (2 : Nat) ≤ sizeLine := by decide
  have z0 : (0 : Nat) ≤ sizeLine := by decide
  obtain ⟨w, n⟩ := p
  have hw1 := hp.1
  have hn := hp.2
  simp only at hw1 hn hw
  rw [r_is_wrong]
  show ofSO (b_is_wrong [some (.tup [.str w, .str n]), some (.tup (held.map .str)), some (.tup (own.map .str)), some (.tup (sl r))] m) = _
  unfold b_is_wrong
  by_cases h1 : w = "take"
  · subst h1
    by_cases hm : n ∈ held
    · simp [eq_str ok_take ok_take, in_strs hn hh, in_tup hg hr, isW, z2, hm]
    · by_cases hk : (("give" : Str), n) ∈ r <;> simp [eq_str ok_take ok_take, in_strs hn hh, in_tup hg hr, isW, z2, hm, hk]
  · have h1' := beq_eq_false_iff_ne.mpr h1
    by_cases h2 : w = "give"
    · subst h2
      cases hl : own.getLast? with
      | none =>
        have : own = [] := List.getLast?_eq_none_iff.mp hl
        subst this
        simp [eq_str ok_give ok_take, eq_str ok_give ok_give, eq_nil, isW, z0, h1, h1']
      | some y =>
        have hne : own.isEmpty = false := by cases own with | nil => cases hl | cons _ _ => rfl
        have hy : okS y := ho y (List.mem_of_getLast? hl)
        simp [eq_str ok_give ok_take, eq_str ok_give ok_give, eq_empty (m := m) ho, isW, z0, h1, h1', hne, atI_m1, List.getLast?_map, hl, eq_str hy hn]
    · have h2' := beq_eq_false_iff_ne.mpr h2
      have hw' := beq_eq_false_iff_ne.mpr hw
      simp [eq_str hw1 ok_take, eq_str hw1 ok_give, eq_str hw1 ok_piece, h1, h2, h1', h2', hw', isW]
structure Good (p : Step) : Prop where
  ok : okP p
  piece : p.1 ≠ "piece"
  test : p.1 ≠ "test"
  choose : p.1 ≠ "choose"
theorem branches_ok {p : Step} (h : Good p) : h_branches [sm p] [] m = .ok (.tup [.tup [], .tup []]) m := by
  obtain ⟨w, n⟩ := p
  rw [r_branches]
  unfold b_branches sm
  have z0 : (0 : Nat) ≤ sizeLine := by decide
  have z2 : (2 : Nat) ≤ sizeLine := by decide
  have h1 := beq_eq_false_iff_ne.mpr h.test
  have h2 := beq_eq_false_iff_ne.mpr h.choose
  simp only at h1 h2
  simp [eq_str h.ok.1 ok_test, eq_str h.ok.1 ok_choose, h1, h2, z0, z2]
theorem wrongs_nil {own : List Str} {n : Nat} : h_wrongs (n + 1) [.tup [], .tup (own.map .str)] [] m = .ok (.con []) (m ++ [.ded]) := by
  rw [r_wrongs]
  unfold b_wrongs
  have z0 : (0 : Nat) ≤ sizeLine := by decide
  simp [z0, enumL, forL]
/-- which own locks stand behind a step -/
def stepO (p : Step) (own : List Str) : List Str := if p.1 = "take" then own ++ [p.2] else if p.1 = "give" then own.dropLast else own
def wr : List Str → List Step → List Bool
  | _, [] => []
  | own, p :: r => isW p own own r :: wr (stepO p own) r
theorem isW_nil {p : Step} {own : List Str} {r : List Step} : isW p ([] ++ own) own r = isW p own own r := rfl
theorem append_set {n : Nat} {xs : List MV} {y : MV} {m1 : MH} (h : m1[n]? = some (.lst xs)) (hl : xs.length < sizeLine) : appendO [.ref n, y] m1 = some (.non, m1.set n (.lst (xs ++ [y]))) := by
  simp [appendO, h, hl]
theorem extend_set {n : Nat} {xs ys : List MV} {m1 : MH} (h : m1[n]? = some (.lst xs)) (hl : xs.length + ys.length ≤ sizeLine) : extendO [.ref n, .con ys] m1 = some (.non, m1.set n (.lst (xs ++ ys))) := by
  simp [extendO, h, hl, lstM]
theorem ofT_ref {n : Nat} {xs : List MV} {m1 : MH} (h : m1[n]? = some (.lst xs)) : ofT "list" (.ref n) m1 = true := by
  simp [ofT, h]
theorem get_lt {n : Nat} {o : MO} {m1 : MH} (h : m1[n]? = some o) : n < m1.length := (List.getElem?_eq_some_iff.mp h).1
/-- one inner turn: nothing comes -/
theorem inner_ok {own : List Str} {n : Nat} {xs : List MV} {e0 e4 e5 : Option MV} (hn : m[n]? = some (.lst xs)) (hk : own.length + xs.length < 2000) :
    b_wrongs_f0 (h_wrongs 1) [e0, some (.tup []), some (.ref n), some (.tup (own.map .str)), e4, e5, some (.tup [])] m = .nx [e0, some (.tup []), some (.ref n), some (.tup (own.map .str)), e4, e5, some (.tup [])] (m ++ [.ded]) := by
  have z : own.length ≤ sizeLine := Nat.le_trans (by omega) (show 2000 ≤ sizeLine by decide)
  have z2 : xs.length ≤ sizeLine := Nat.le_trans (by omega) (show 2000 ≤ sizeLine by decide)
  have hn2 : (m ++ [MO.ded])[n]? = some (.lst xs) := old_get hn
  have hs : (m ++ [MO.ded]).set n (.lst xs) = m ++ [.ded] := by
    refine List.ext_getElem? fun i => ?_
    by_cases hi : i = n
    · subst hi; rw [List.getElem?_set_self (by have := get_lt hn; simp; omega), hn2]
    · rw [List.getElem?_set_ne (Ne.symm hi)]
  unfold b_wrongs_f0
  simp [ofT_ref hn, z, wrongs_nil, extend_set hn2, z2, hs]
theorem turn_ok {p : Step} {own : List Str} {all : List Step} {k n : Nat} {bs : List Bool} {x7 : Option MV} (hp : Good p) (ho : ∀ y ∈ own, okS y) (hr : ∀ q ∈ all, okP q) (hn : m[n]? = some (.lst (bs.map .bl))) (hk : own.length + bs.length < 1000) :
    ∃ t x7', b_wrongs_f1 (h_wrongs 1) [some (.tup (sl all)), some (.tup []), some (.ref n), some (.tup (own.map .str)), some (.int k), some (sm p), x7] m = .nx [some (.tup (sl all)), some (.tup []), some (.ref n), some (.tup ((stepO p own).map .str)), some (.int k), some (sm p), x7'] (m.set n (.lst ((bs ++ [isW p own own (all.drop (k + 1))]).map .bl)) ++ t) := by
  have hl := get_lt hn
  have z : own.length ≤ sizeLine := Nat.le_trans (by omega) (show 2000 ≤ sizeLine by decide)
  have z2 : bs.length < sizeLine := Nat.lt_of_lt_of_le (by omega) (show 2000 ≤ sizeLine by decide)
  have z1 : own.length + 1 ≤ sizeLine := Nat.le_trans (by omega) (show 2000 ≤ sizeLine by decide)
  have z4 : (1 : Nat) ≤ sizeLine := by decide
  have hd : ∀ q ∈ all.drop (k + 1), okP q := fun q hq => hr q (List.mem_of_mem_drop hq)
  have hcut : cutM (sl all) (some ((k : Int) + 1)) none = sl (all.drop (k + 1)) := by
    rw [show ((k : Int) + 1) = ((k + 1 : Nat) : Int) from by omega, cut_from, sl, sl, List.map_drop]
  have hw := fun m => is_wrong_ok (m := m) (held := own) (own := own) (r := all.drop (k + 1)) hp.ok ho ho hd hp.piece
  have h1 : (sExpr (eMt "list" appendO (eVar 2) (aCons (eCall (fun as => h_is_wrong as []) (aCons (eVar 5) (aCons (eBin (lift2 addO) (eVar 1) (eVar 3)) (aCons (eVar 3) (aCons (eSl (eVar 0) (oSome (eBin (lift2 addO) (eVar 4) (eC (.int 1)))) oNone) aNil))))) aNil))) [some (.tup (sl all)), some (.tup []), some (.ref n), some (.tup (own.map .str)), some (.int k), some (sm p), x7] m = .nx [some (.tup (sl all)), some (.tup []), some (.ref n), some (.tup (own.map .str)), some (.int k), some (sm p), x7] (m.set n (.lst ((bs ++ [isW p own own (all.drop (k + 1))]).map .bl))) := by
    simp [ofT_ref hn, z, hcut, hw, append_set hn, z2]
  have hm1 : (m.set n (.lst ((bs ++ [isW p own own (all.drop (k + 1))]).map .bl)))[n]? = some (.lst ((bs ++ [isW p own own (all.drop (k + 1))]).map .bl)) := List.getElem?_set_self hl
  generalize hM : m.set n (.lst ((bs ++ [isW p own own (all.drop (k + 1))]).map .bl)) = m1 at h1 hm1
  unfold b_wrongs_f1
  rw [seq_nx h1]
  have last : ∀ (o : List Str) (m2 : MH), m2 = m1 → o.length ≤ own.length + 1 → ∃ t x7', sFor (iSeqM (eCall (fun as => h_branches as []) (aCons (eVar 5) aNil))) (gNm 6) (b_wrongs_f0 (h_wrongs 1)) [some (.tup (sl all)), some (.tup []), some (.ref n), some (.tup (o.map .str)), some (.int k), some (sm p), x7] m2 = .nx [some (.tup (sl all)), some (.tup []), some (.ref n), some (.tup (o.map .str)), some (.int k), some (sm p), x7'] (m1 ++ t) := fun o m2 e ho2 => by
    subst e
    have a1 := inner_ok (own := o) (n := n) (e0 := some (.tup (sl all))) (e4 := some (.int k)) (e5 := some (sm p)) hm1 (by simp; omega)
    have a2 := inner_ok (own := o) (n := n) (m := m2 ++ [.ded]) (e0 := some (.tup (sl all))) (e4 := some (.int k)) (e5 := some (sm p)) (old_get hm1) (by simp; omega)
    refine ⟨[.ded, .ded], some (.tup []), ?_⟩
    simp [branches_ok hp, forL, a1, a2]
  obtain ⟨w, l⟩ := p
  have hw1 := hp.ok.1
  simp only at hw1
  by_cases h1 : w = "take"
  · subst h1
    obtain ⟨t, x7', e⟩ := last (own ++ [l]) m1 rfl (by simp)
    refine ⟨t, x7', ?_⟩
    have so : stepO (("take" : Str), l) own = own ++ [l] := rfl
    rw [so]
    refine Eq.trans (seq_nx (e1 := [some (.tup (sl all)), some (.tup []), some (.ref n), some (.tup ((own ++ [l]).map .str)), some (.int k), some (sm (("take" : Str), l)), x7]) (m1 := m1) ?_) (Eq.trans (seq_nx (e1 := [some (.tup (sl all)), some (.tup []), some (.ref n), some (.tup ((own ++ [l]).map .str)), some (.int k), some (sm (("take" : Str), l)), x7]) (m1 := m1) ?_) e)
    · simp [sm, eq_str ok_take ok_take, z1, z4]
    · have q : (("take" : Str) == ("give" : Str)) = false := by decide
      simp [sm, eq_str ok_take ok_give, q]
  · have h1' := beq_eq_false_iff_ne.mpr h1
    by_cases h2 : w = "give"
    · subst h2
      obtain ⟨t, x7', e⟩ := last own.dropLast m1 rfl (by simp; omega)
      refine ⟨t, x7', ?_⟩
      have so : stepO (("give" : Str), l) own = own.dropLast := by unfold stepO; rw [if_neg h1, if_pos rfl]
      rw [so]
      refine Eq.trans (seq_nx (e1 := [some (.tup (sl all)), some (.tup []), some (.ref n), some (.tup (own.map .str)), some (.int k), some (sm (("give" : Str), l)), x7]) (m1 := m1) ?_) (Eq.trans (seq_nx (e1 := [some (.tup (sl all)), some (.tup []), some (.ref n), some (.tup (own.dropLast.map .str)), some (.int k), some (sm (("give" : Str), l)), x7]) (m1 := m1) ?_) e)
      · simp [sm, eq_str ok_give ok_take, h1']
      · simp [sm, eq_str ok_give ok_give, cut_most]
    · have h2' := beq_eq_false_iff_ne.mpr h2
      obtain ⟨t, x7', e⟩ := last own m1 rfl (by omega)
      refine ⟨t, x7', ?_⟩
      have so : stepO (w, l) own = own := by unfold stepO; rw [if_neg h1, if_neg h2]
      rw [so]
      refine Eq.trans (seq_nx (e1 := [some (.tup (sl all)), some (.tup []), some (.ref n), some (.tup (own.map .str)), some (.int k), some (sm (w, l)), x7]) (m1 := m1) ?_) (Eq.trans (seq_nx (e1 := [some (.tup (sl all)), some (.tup []), some (.ref n), some (.tup (own.map .str)), some (.int k), some (sm (w, l)), x7]) (m1 := m1) ?_) e)
      · simp [sm, eq_str hw1 ok_take, h1']
      · simp [sm, eq_str hw1 ok_give, h2']
theorem cons_get {α : Type} {m0 t : List α} {o : α} : (m0 ++ o :: t)[m0.length]? = some o := by rw [List.getElem?_append_right (Nat.le_refl _)]; simp
theorem cons_set {α : Type} {m0 t : List α} {o p : α} : (m0 ++ o :: t).set m0.length p = m0 ++ p :: t := by rw [List.set_append_right _ _ (Nat.le_refl _)]; simp
theorem stepO_ok {p : Step} {own : List Str} (hp : okP p) (ho : ∀ y ∈ own, okS y) : ∀ y ∈ stepO p own, okS y := fun y hy => by
  unfold stepO at hy
  split at hy
  · rcases List.mem_append.mp hy with h | h
    · exact ho y h
    · rw [List.mem_singleton.mp h]; exact hp.2
  · split at hy
    · exact ho y (List.dropLast_subset _ hy)
    · exact ho y hy
theorem stepO_len {p : Step} {own : List Str} : (stepO p own).length ≤ own.length + 1 := by
  unfold stepO
  split
  · simp
  · split <;> simp <;> omega
theorem wrongs_loop : ∀ (r pre : List Step) (own : List Str) (bs : List Bool) (t m0 : MH) (x4 x5 x7 : Option MV), (∀ q ∈ pre ++ r, Good q) → (∀ y ∈ own, okS y) → own.length + bs.length + 2 * r.length < 1000 →
    ∃ x3' x4' x5' x7' t', forL (gTp (gsCons (gNm 4) (gsCons (gNm 5) gsNil))) (b_wrongs_f1 (h_wrongs 1)) (enumL pre.length (sl r)) [some (.tup (sl (pre ++ r))), some (.tup []), some (.ref m0.length), some (.tup (own.map .str)), x4, x5, x7] (m0 ++ .lst (bs.map .bl) :: t) =
      .nx [some (.tup (sl (pre ++ r))), some (.tup []), some (.ref m0.length), x3', x4', x5', x7'] (m0 ++ .lst ((bs ++ wr own r).map .bl) :: t')
  | [], pre, own, bs, t, m0, x4, x5, x7, hg, ho, hk => ⟨some (.tup (own.map .str)), x4, x5, x7, t, by simp [sl, enumL, forL, wr]⟩
  | p :: r, pre, own, bs, t, m0, x4, x5, x7, hg, ho, hk => by
    have hp : Good p := hg p (by simp)
    obtain ⟨t1, y7, h1⟩ := turn_ok (m := m0 ++ .lst (bs.map .bl) :: t) (p := p) (own := own) (all := pre ++ p :: r) (k := pre.length) (n := m0.length) (bs := bs) (x7 := x7) hp ho (fun q hq => (hg q hq).ok) cons_get (by simp at hk; omega)
    have hd : (pre ++ p :: r).drop (pre.length + 1) = r := by
      rw [show pre ++ p :: r = (pre ++ [p]) ++ r by simp, List.drop_left' (by simp)]
    rw [hd, cons_set] at h1
    obtain ⟨z3, z4, z5, z7, t2, h2⟩ := wrongs_loop r (pre ++ [p]) (stepO p own) (bs ++ [isW p own own r]) (t ++ t1) m0 (some (.int (pre.length : Nat))) (some (sm p)) y7 (fun q hq => hg q (by simpa using hq)) (stepO_ok hp.ok ho) (by have := stepO_len (p := p) (own := own); simp at hk ⊢; omega)
    refine ⟨z3, z4, z5, z7, t2, ?_⟩
    have e1 : (bs ++ [isW p own own r]) ++ wr (stepO p own) r = bs ++ wr own (p :: r) := by simp [wr]
    rw [e1] at h2
    have e2 : (pre ++ [p]) ++ r = pre ++ p :: r := by simp
    rw [e2, show (pre ++ [p]).length = pre.length + 1 by simp] at h2
    show forL _ _ (.tup [.int ((pre.length : Nat) : Int), sm p] :: enumL (pre.length + 1) (sl r)) _ _ = _
    unfold forL
    have g : gTp (gsCons (gNm 4) (gsCons (gNm 5) gsNil)) (.tup [.int ((pre.length : Nat) : Int), sm p]) [some (.tup (sl (pre ++ p :: r))), some (.tup []), some (.ref m0.length), some (.tup (own.map .str)), x4, x5, x7] = some [some (.tup (sl (pre ++ p :: r))), some (.tup []), some (.ref m0.length), some (.tup (own.map .str)), some (.int ((pre.length : Nat) : Int)), some (sm p), x7] := rfl
    rw [g]
    simp only [h1]
    rw [show (m0 ++ MO.lst ((bs ++ [isW p own own r]).map .bl) :: t) ++ t1 = m0 ++ MO.lst ((bs ++ [isW p own own r]).map .bl) :: (t ++ t1) by simp]
    exact h2
theorem wrongs_ok {ps : List Step} (hg : ∀ q ∈ ps, Good q) (hk : ps.length < 400) : ∃ t, h_wrongs 2 [.tup (sl ps), .tup []] [] m = .ok (.con ((wr [] ps).map .bl)) (m ++ t) := by
  obtain ⟨x3, x4, x5, x7, t, h⟩ := wrongs_loop ps [] [] [] [] m none none none (by simpa using hg) (by simp) (by simp; omega)
  have z0 : (0 : Nat) ≤ sizeLine := by decide
  refine ⟨.ded :: t, ?_⟩
  rw [r_wrongs]
  unfold b_wrongs
  have h1 : sSet 2 (eLst aNil) [some (MV.tup (sl ps)), some (MV.tup []), none, none, none, none, none] m = .nx [some (MV.tup (sl ps)), some (MV.tup []), some (.ref m.length), none, none, none, none] (m ++ [.lst []]) := by simp [z0]
  have h2 : sSet 3 (eTup aNil) [some (MV.tup (sl ps)), some (MV.tup []), some (.ref m.length), none, none, none, none] (m ++ [.lst []]) = .nx [some (MV.tup (sl ps)), some (MV.tup []), some (.ref m.length), some (.tup []), none, none, none] (m ++ [.lst []]) := by simp [z0]
  have h3 : sFor (iEnumM (eVar 0)) (gTp (gsCons (gNm 4) (gsCons (gNm 5) gsNil))) (b_wrongs_f1 (h_wrongs 1)) [some (MV.tup (sl ps)), some (MV.tup []), some (.ref m.length), some (.tup []), none, none, none] (m ++ [.lst []]) = .nx [some (MV.tup (sl ps)), some (MV.tup []), some (.ref m.length), x3, x4, x5, x7] (m ++ .lst ((wr [] ps).map .bl) :: t) := by
    simp only [sfor, ienum, ev0, srcEnum_tup, sfx]
    simpa using h
  rw [seq_nx h1, seq_nx h2, seq_nx h3]
  simp [cons_get, cons_set]
/-- takes and gives are right -/
def bal (ps : List Step) : Bool := (wr [] ps).all fun q => !q
theorem fault_loop : ∀ (bs : List Bool) (k : Nat) (e0 x1 x2 : Option MV), (∃ e, bs.all (fun q => !q) = true ∧ forL (gTp (gsCons (gNm 1) (gsCons (gNm 2) gsNil))) b_lock_fault_f0 (enumL k (bs.map .bl)) [e0, x1, x2] m = .nx e m) ∨ ∃ i, bs.all (fun q => !q) = false ∧ forL (gTp (gsCons (gNm 1) (gsCons (gNm 2) gsNil))) b_lock_fault_f0 (enumL k (bs.map .bl)) [e0, x1, x2] m = .rt (.int i) m
  | [], k, e0, x1, x2 => .inl ⟨_, rfl, rfl⟩
  | true :: bs, k, e0, x1, x2 => .inr ⟨k, rfl, by simp [enumL, forL, gTp, gsCons, gsNil, b_lock_fault_f0]⟩
  | false :: bs, k, e0, x1, x2 => by
    have e : forL (gTp (gsCons (gNm 1) (gsCons (gNm 2) gsNil))) b_lock_fault_f0 (enumL k ((false :: bs).map .bl)) [e0, x1, x2] m = forL (gTp (gsCons (gNm 1) (gsCons (gNm 2) gsNil))) b_lock_fault_f0 (enumL (k + 1) (bs.map .bl)) [e0, some (.int (k : Nat)), some (.bl false)] m := by
      simp [enumL, forL, gTp, gsCons, gsNil, b_lock_fault_f0]
    rw [e]
    rcases fault_loop bs (k + 1) e0 (some (.int (k : Nat))) (some (.bl false)) with ⟨e1, h1, h2⟩ | ⟨i, h1, h2⟩
    · exact .inl ⟨e1, by simpa using h1, h2⟩
    · exact .inr ⟨i, by simpa using h1, h2⟩
theorem lock_fault_ok {ps : List Step} (hg : ∀ q ∈ ps, Good q) (hk : ps.length < 400) : ∃ t v, h_lock_fault [.tup (sl ps)] [] m = .ok v (m ++ t) ∧ ((bal ps = true ∧ v = .non) ∨ (bal ps = false ∧ ∃ i, v = .int i)) := by
  obtain ⟨t, h⟩ := wrongs_ok (m := m) hg hk
  have z0 : (0 : Nat) ≤ sizeLine := by decide
  rw [r_lock_fault]
  unfold b_lock_fault
  have h1 : iEnumM (eCall (fun as => (h_wrongs 2) as []) (aCons (eVar 0) (aCons (eTup aNil) aNil))) [some (.tup (sl ps)), none, none] m = .ok (.fx (enumL 0 ((wr [] ps).map .bl))) (m ++ t) := by simp [z0, h]
  rcases fault_loop (m := m ++ t) (wr [] ps) 0 (some (.tup (sl ps))) none none with ⟨e1, h2, h3⟩ | ⟨i, h2, h3⟩
  · refine ⟨t, .non, ?_, .inl ⟨h2, rfl⟩⟩
    rw [seq_nx (e1 := e1) (m1 := m ++ t) (by rw [sfor, h1]; exact h3)]
    simp
  · refine ⟨t, .int i, ?_, .inr ⟨h2, i, rfl⟩⟩
    rw [seq_rt (u := .int i) (m1 := m ++ t) (by rw [sfor, h1]; exact h3)]
    simp
theorem is_balanced_ok {ps : List Step} (hg : ∀ q ∈ ps, Good q) (hk : ps.length < 400) : ∃ t, h_is_balanced [.con (sl ps)] [] m = .ok (.bl (bal ps)) (m ++ t) := by
  obtain ⟨t, v, h, hv⟩ := lock_fault_ok (m := m) hg hk
  refine ⟨t, ?_⟩
  rw [r_is_balanced]
  unfold b_is_balanced
  rcases hv with ⟨h1, rfl⟩ | ⟨h1, i, rfl⟩ <;> simp [h, h1]
end
end K55
end

section
set_option Elab.async false
set_option linter.all false
set_option maxRecDepth 100000
set_option maxHeartbeats 2000000
namespace K55
open PySem Mi L2
def words : List Str := ["cancel", "bar", "halt", "settle", "close", "drain", "set", "clear", "take", "give"]
def nms : List Str := ["a", "b", "ab", "l", "c", "d", "e", "f", "g"]
structure Valid (p : Step) : Prop where
  w : p.1 ∈ words
  n : p.2 ∈ nms
theorem ok_words : ∀ w ∈ words, okS w := by
  have : (words.all fun w => PyData.canLay0 (.str w)) = true := by decide +kernel
  exact fun w h => List.all_eq_true.mp this w h
theorem ok_nms : ∀ w ∈ nms, okS w := by
  have : (nms.all fun w => PyData.canLay0 (.str w)) = true := by decide +kernel
  exact fun w h => List.all_eq_true.mp this w h
theorem words_ne : ∀ w ∈ words, w ≠ "piece" ∧ w ≠ "test" ∧ w ≠ "choose" := by
  have : (words.all fun w => decide (w ≠ "piece" ∧ w ≠ "test" ∧ w ≠ "choose")) = true := by decide +kernel
  exact fun w h => of_decide_eq_true (List.all_eq_true.mp this w h)
theorem Valid.good {p : Step} (h : Valid p) : Good p := ⟨⟨ok_words _ h.w, ok_nms _ h.n⟩, (words_ne _ h.w).1, (words_ne _ h.w).2.1, (words_ne _ h.w).2.2⟩
section
variable {m : MH}
theorem is_name_ok {n : Str} (h : n ∈ nms) : h_is_name [.str n] [] m = .ok (.bl true) m := by
  simp only [nms, List.mem_cons, List.not_mem_nil, or_false] at h
  rcases h with rfl | rfl | rfl | rfl | rfl | rfl | rfl | rfl | rfl <;> rfl
theorem eqv_int {i j : Int} : PyData.eqv (.int i) (.int j) = (i == j) := by first | rfl | simp [PyData.eqv]
theorem eq_int {i j : Int} {neg : Bool} : Mi.eqO neg (.int i) (.int j) m = some (.bl (if neg then !(i == j) else i == j), m) := by
  have := eqO_mvD (m := m) (neg := neg) (d := .int i) (f := .int j) rfl (Nat.zero_le _) rfl (Nat.zero_le _)
  rw [eqv_int] at this
  exact this
theorem is_step_ok {p : Step} (h : Valid p) : h_is_step [sm p] [] m = .ok (.bl true) m := by
  have hw := h.w
  have hi : inB (.str p.1) (.tup (words.map .str)) m = some (words.contains p.1) := in_strs (ok_words _ h.w) ok_words
  have hc : words.contains p.1 = true := by simpa using h.w
  rw [r_is_step]
  unfold b_is_step sm
  simp only [sret, eand, eisi, ev0, isO6_tup, ebin, eapp, acons, anil, lenO_tup, ec, lift2_run, List.length_cons, List.length_nil]
  have e2 : Mi.eqO false (.int ((0 + 1 + 1 : Nat) : Int)) (.int 2) m = some (.bl true, m) := eq_int
  rw [e2]
  simp only [ixO_tup, atI_0, Option.map_some, inO_eq]
  rw [show inB (.str p.1) (.tup (List.map MV.str ["cancel", "bar", "halt", "settle", "close", "drain", "set", "clear", "take", "give"])) m = some true from hi.trans (by rw [hc])]
  simp [is_name_ok h.n]
theorem steps_loop : ∀ (ps : List Step) (k : Nat) (e0 x1 x2 : Option MV), (∀ q ∈ ps, Valid q) → ∃ y1 y2, forL (gTp (gsCons (gNm 1) (gsCons (gNm 2) gsNil))) b_require_steps_f0 (enumL k (sl ps)) [e0, x1, x2] m = .nx [e0, y1, y2] m
  | [], k, e0, x1, x2, _ => ⟨x1, x2, rfl⟩
  | p :: ps, k, e0, x1, x2, h => by
    obtain ⟨y1, y2, e⟩ := steps_loop ps (k + 1) e0 (some (.int (k : Nat))) (some (sm p)) fun q hq => h q (List.mem_cons_of_mem _ hq)
    refine ⟨y1, y2, ?_⟩
    rw [← e]
    simp [sl, enumL, forL, gTp, gsCons, gsNil, b_require_steps_f0, is_step_ok (h p List.mem_cons_self)]
theorem sl_length {ps : List Step} : (sl ps).length = ps.length := by simp [sl]
theorem require_steps_ok {ps : List Step} (h : ∀ q ∈ ps, Valid q) (hk : ps.length ≤ 8) (hb : bal ps = true) : ∃ t, h_require_steps [.tup (sl ps)] [] m = .ok .non (m ++ t) := by
  obtain ⟨y1, y2, e⟩ := steps_loop (m := m) ps 0 (some (.tup (sl ps))) none none h
  obtain ⟨t, v, e2, hv⟩ := lock_fault_ok (m := m) (fun q hq => (h q hq).good) (show ps.length < 400 by omega)
  rcases hv with ⟨_, rfl⟩ | ⟨z, _⟩
  · refine ⟨t, ?_⟩
    rw [r_require_steps]
    unfold b_require_steps
    have h1 : sFor (iEnumM (eVar 0)) (gTp (gsCons (gNm 1) (gsCons (gNm 2) gsNil))) b_require_steps_f0 [some (.tup (sl ps)), none, none] m = .nx [some (.tup (sl ps)), y1, y2] m := by
      simp only [sfor, ienum, ev0, srcEnum_tup, sfx]
      exact e
    have h2 : decide ((8 : Int) < ((sl ps).length : Int)) = false := by
      rw [sl_length]
      exact decide_eq_false (by omega)
    rw [seq_nx h1]
    simp [h2, e2]
    try (simp [sl_length]; omega)
  · rw [hb] at z; cases z
/-- a Row -/
def row (ps : List Step) : MV := .obj "Row" [("own_steps", .tup (sl ps))]
theorem row_make {ps : List Step} (h : ∀ q ∈ ps, Valid q) (hk : ps.length ≤ 8) (hb : bal ps = true) : ∃ t, hMake "Row" (fun as => h_Row___init__ as []) (sl ps) m = .ok (row ps) (m ++ t) := by
  obtain ⟨t, e⟩ := require_steps_ok (m := m ++ [.ins "Row" []]) h hk hb
  have z : ps.length ≤ sizeLine := Nat.le_trans hk (by decide)
  refine ⟨.ded :: t, ?_⟩
  have e1 : h_Row___init__ (.ref m.length :: sl ps) [] (m ++ [.ins "Row" []]) = .ok .non (m ++ .ins "Row" [("own_steps", .tup (sl ps))] :: t) := by
    unfold h_Row___init__ starM
    rw [if_pos ⟨by simp, by simpa [sl] using z, rfl⟩, runF_eq]
    show ofSO (b_Row___init__ [some (.ref m.length), some (.tup (sl ps))] (m ++ [.ins "Row" []])) = _
    unfold b_Row___init__
    have h1 : sExpr (eCall (fun as => h_require_steps as []) (aCons (eVar 1) aNil)) [some (.ref m.length), some (.tup (sl ps))] (m ++ [.ins "Row" []]) = .nx [some (.ref m.length), some (.tup (sl ps))] (m ++ .ins "Row" [] :: t) := by
      simp [e]
    rw [seq_nx h1]
    have hp : putO ["Row"] "own_steps" (.tup (sl ps)) (.ref m.length) (m ++ .ins "Row" [] :: t) = some (m ++ .ins "Row" [("own_steps", .tup (sl ps))] :: t) := by
      simp [putO, cons_get, cons_set, putM]
    simp [sSetF, doE, hp]
  unfold hMake
  dsimp only
  rw [e1]
  simp [cons_get, cons_set, row]
theorem row_steps {ps : List Step} : h_Row_steps [row ps] [] m = .ok (.con (sl ps)) m := by
  rw [r_Row_steps]
  unfold b_Row_steps
  simp [row, fldM]
theorem parts_tup {r : MV} {xs : List MV} : h_Row_parts_of [r, .tup xs] [] m = .ok (.tup xs) m := by
  rw [r_Row_parts_of]
  unfold b_Row_parts_of
  have : isO [(Tag.o "Row", true), (Tag.b "NoneType", false), (Tag.b "bool", false), (Tag.b "int", false), (Tag.b "str", false), (Tag.b "tuple", false), (Tag.b "list", false)] (.tup xs) m = some false := rfl
  simp [this]
theorem parts_row {r : MV} {ps : List Step} : h_Row_parts_of [r, row ps] [] m = .ok (.tup (sl ps)) m := by
  rw [r_Row_parts_of]
  unfold b_Row_parts_of
  have : isO [(Tag.o "Row", true), (Tag.b "NoneType", false), (Tag.b "bool", false), (Tag.b "int", false), (Tag.b "str", false), (Tag.b "tuple", false), (Tag.b "list", false)] (row ps) m = some true := by
    show List.lookup (Tag.o "Row") _ = _
    decide +kernel
  simp [this]
  simp [row, fldM]
theorem row_add {ps qs : List Step} {x : MV} (hx : ∀ m, h_Row_parts_of [row ps, x] [] m = .ok (.tup (sl qs)) m) (h : ∀ q ∈ ps ++ qs, Valid q) (hk : (ps ++ qs).length ≤ 8) (hb : bal (ps ++ qs) = true) : ∃ t, h_Row___add__ [row ps, x] [] m = .ok (row (ps ++ qs)) (m ++ t) := by
  obtain ⟨t, e⟩ := row_make (m := m) h hk hb
  have z : ps.length + qs.length ≤ sizeLine := by rw [← List.length_append]; exact Nat.le_trans hk (by decide)
  refine ⟨t, ?_⟩
  rw [r_Row___add__]
  unfold b_Row___add__
  have es : sl ps ++ sl qs = sl (ps ++ qs) := by simp [sl]
  have h1 : sSet 2 (eBin (lift2 addO) (eFld ["Row"] "own_steps" (eVar 0)) (eMeth "parts_of" (("Row", fun as => h_Row_parts_of as []) :: []) (eVar 0) (aCons (eVar 1) aNil))) [some (row ps), some x, none] m = .nx [some (row ps), some x, some (.tup (sl (ps ++ qs)))] m := by
    have f1 : fldM ["Row"] "own_steps" (row ps) m = .ok (.tup (sl ps)) m := by simp [fldM, row]
    have f2 : clsM m (row ps) = some (("Row" : Str), [(("own_steps" : Str), MV.tup (sl ps))]) := rfl
    have f3 : List.lookup ("parts_of" : Str) [(("own_steps" : Str), MV.tup (sl ps))] = none := by
      rw [List.lookup_cons, show (("parts_of" : Str) == ("own_steps" : Str)) = false from by decide]; rfl
    simp [f1, f2, f3, hx, sl_length, z, es]
  rw [seq_nx h1]
  simp [e]
end
end K55
end

section
set_option Elab.async false
set_option linter.all false
set_option maxRecDepth 100000
set_option maxHeartbeats 2000000
namespace K55
open PySem Mi L2
section
variable {m : MH}
/-! ### prices -/
def isWait (p : Step) : Bool := p.1 = "halt" || p.1 = "settle" || p.1 = "drain"
def cost (w l : Int) (ps : List Step) : Int := (ps.map fun p => if isWait p then w else l).sum
theorem ok_w3 : ∀ y ∈ ([("halt" : Str), "settle", "drain"] : List Str), okS y := by
  have : ([("halt" : Str), "settle", "drain"].all fun w => PyData.canLay0 (.str w)) = true := by decide +kernel
  exact fun w h => List.all_eq_true.mp this w h
theorem in_w3 {w : Str} (h : okS w) : inB (.str w) (.tup [.str "halt", .str "settle", .str "drain"]) m = some (w = "halt" || w = "settle" || w = "drain") := by
  have := in_strs (m := m) h ok_w3
  refine this.trans ?_
  simp [List.contains_cons, Bool.or_assoc]
theorem intsOf_map : ∀ ns : List Int, intsOf (ns.map .int) = some ns
  | [] => rfl
  | n :: ns => by
    show (intsOf (ns.map .int)).map (n :: ·) = _
    rw [intsOf_map ns]; rfl
theorem price_of_ok {ps : List Step} {w l : Int} (h : ∀ q ∈ ps, Good q) (hk : ps.length < 400) : h_price_of [.con (sl ps), .int w, .int l] [] m = .ok (.int (cost w l ps)) m := by
  rw [r_price_of]
  unfold b_price_of
  have z3 : (3 : Nat) ≤ sizeLine := by decide
  have hc : collL (turnC (gNm 3) tYesM (eIf (tOf (eBin (lift2 (inO false)) (eBin (lift2 ixO) (eVar 3) (eC (.int 0))) (eTup (aCons (eC (.str "halt")) (aCons (eC (.str "settle")) (aCons (eC (.str "drain")) aNil)))))) (eVar 1) (eVar 2)) [some (.con (sl ps)), some (.int w), some (.int l), none]) (sl ps) m = .ok ((sl ps).flatMap fun x => match x with
      | .tup [.str a, _] => [.int (if isWait (a, a) then w else l)]
      | _ => []) m := by
    refine collL_pure fun x hx => ?_
    obtain ⟨p, hp, rfl⟩ := List.mem_map.mp hx
    have := in_w3 (m := m) (h p hp).ok.1
    have e : isWait (p.1, p.1) = isWait p := rfl
    rw [show (p.1 = "halt" || p.1 = "settle" || p.1 = "drain" : Bool) = isWait p from rfl] at this
    cases hw : isWait p <;> rw [hw] at this <;> simp [sm, z3, this, e, hw]
  have hf : ((sl ps).flatMap fun x => match x with
      | .tup [.str a, _] => [.int (if isWait (a, a) then w else l)]
      | _ => []) = (ps.map fun p => if isWait p then w else l).map MV.int := by
    clear hc h hk
    induction ps with
    | nil => rfl
    | cons p ps ih =>
      rw [sl, List.map_cons, List.flatMap_cons, List.map_cons, List.map_cons]
      rw [sl] at ih
      rw [ih]
      rfl
  have z : ps.length ≤ sizeLine := Nat.le_trans (by omega) (show 400 ≤ sizeLine by decide)
  rw [hf] at hc
  simp only [sret, eapp, acons, anil, ecomp, iseq, ev0, srcSeq_con, cfx, wipeM, List.set_cons_succ, List.set_cons_zero, hc, List.length_map, if_pos z]
  have : sumO [.con (List.map MV.int (List.map (fun p => if isWait p = true then w else l) ps))] m = some (.int (cost w l ps), m) := by
    unfold sumO
    simp only [lstM, Option.bind_some, intsOf_map, Option.map_some]
    rfl
  rw [this]
  rfl
/-- the values that prices and numbers may be -/
def simpleV : MV → Prop
  | .int _ | .bl _ | .non | .str _ => True
  | _ => False
def numV (v : MV) (hi : Int) : Bool := match v with
  | .int i => decide (0 ≤ i) && decide (i ≤ hi)
  | _ => false
theorem is_whole_ok {v : MV} {hi : Int} (h : simpleV v) : h_is_whole [v, .int 0, .int hi] [] m = .ok (.bl (numV v hi)) m := by
  rw [r_is_whole]
  unfold b_is_whole
  cases v with
  | int i =>
    by_cases h0 : 0 ≤ i
    · simp [numV, h0]
    · simp [numV, h0]
  | bl b => simp [numV]
  | non => simp [numV]
  | str x => simp [numV]
  | _ => exact h.elim
theorem require_number_ok {v : MV} {hi : Int} (h : simpleV v) (hn : numV v hi = true) : h_require_number [v, .int hi] [] m = .ok .non m := by
  rw [r_require_number]
  unfold b_require_number
  simp [is_whole_ok h, hn]
theorem require_number_no {v : MV} {hi : Int} (h : simpleV v) (hn : numV v hi = false) : h_require_number [v, .int hi] [] m = .exc ⟨"InvalidNumber", [("value", v)]⟩ m := by
  rw [r_require_number]
  unfold b_require_number
  simp [is_whole_ok h, hn]
theorem require_prices_ok {a b : Int} (ha : 0 ≤ a ∧ a ≤ 1000) (hb : 0 ≤ b ∧ b ≤ 1000) : h_require_prices [.int a, .int b] [] m = .ok .non m := by
  rw [r_require_prices]
  unfold b_require_prices
  have z : (2 : Nat) ≤ sizeLine := by decide
  have h1 : h_require_number [.int a, .int 1000] [] m = .ok .non m := require_number_ok trivial (by simp [numV, ha])
  have h2 : h_require_number [.int b, .int 1000] [] m = .ok .non m := require_number_ok trivial (by simp [numV, hb])
  simp [z, forL, b_require_prices_f0, h1, h2]
theorem price_run {ps : List Step} {a b : Int} (h : ∀ q ∈ ps, Good q) (hk : ps.length < 400) (ha : 0 ≤ a ∧ a ≤ 1000) (hb : 0 ≤ b ∧ b ≤ 1000) : ofSO (b_price [some (row ps), some (.int a), some (.int b)] m) = .ok (.int (cost a b ps)) m := by
  unfold b_price
  have f2 : clsM m (row ps) = some (("Row" : Str), [(("own_steps" : Str), MV.tup (sl ps))]) := rfl
  have f3 : List.lookup ("steps" : Str) [(("own_steps" : Str), MV.tup (sl ps))] = none := by
    rw [List.lookup_cons, show (("steps" : Str) == ("own_steps" : Str)) = false from by decide]; rfl
  simp [require_prices_ok ha hb, f2, f3, row_steps, price_of_ok h hk]
theorem price_ok {ps : List Step} (h : ∀ q ∈ ps, Good q) (hk : ps.length < 400) : h_price [row ps] [] m = .ok (.int (cost 3 1 ps)) m := by
  rw [r_price]; exact price_run h hk (by decide) (by decide)
theorem price_plain_ok {ps : List Step} {b : Int} (h : ∀ q ∈ ps, Good q) (hk : ps.length < 400) (hb : 0 ≤ b ∧ b ≤ 1000) : h_price_plain [row ps] [.int b] m = .ok (.int (cost 3 b ps)) m := by
  rw [r_price_plain]; exact price_run h hk (by decide) hb
theorem price_wait_ok {ps : List Step} {a : Int} (h : ∀ q ∈ ps, Good q) (hk : ps.length < 400) (ha : 0 ≤ a ∧ a ≤ 1000) : h_price_wait [row ps] [.int a] m = .ok (.int (cost a 1 ps)) m := by
  rw [r_price_wait]; exact price_run h hk ha (by decide)
theorem law_price_ok {ps : List Step} {a b : Int} (h : ∀ q ∈ ps, Good q) (hk : ps.length < 400) (ha : 0 ≤ a ∧ a ≤ 1000) (hb : 0 ≤ b ∧ b ≤ 1000) : h__law_price [row ps, .int a, .int b] [] m = .ok (.int (cost a b ps)) m := by
  rw [r__law_price]
  unfold b__law_price
  have : h_price_wait_plain [row ps] [.int a, .int b] m = .ok (.int (cost a b ps)) m := by rw [r_price_wait_plain]; exact price_run h hk ha hb
  simp [sTry, this]
/-- .. refused: the first of both that is none -/
theorem law_price_no {r x y v : MV} {d : PyData} (hx : simpleV x) (hy : simpleV y) (hv : (numV x 1000 = false ∧ v = x) ∨ (numV x 1000 = true ∧ numV y 1000 = false ∧ v = y)) (hd : datS m v = some d) (hs : d.showable = true) (hl : d.shown.length ≤ sizeLine) :
    h__law_price [r, x, y] [] m = .ok (.con [.str "none", .str d.shown]) m := by
  rw [r__law_price]
  unfold b__law_price
  have z : (2 : Nat) ≤ sizeLine := by decide
  have hp : h_require_prices [x, y] [] m = .exc ⟨"InvalidNumber", [("value", v)]⟩ m := by
    rw [r_require_prices]
    unfold b_require_prices
    rcases hv with ⟨h1, rfl⟩ | ⟨h1, h2, rfl⟩
    · simp [z, forL, b_require_prices_f0, require_number_no hx h1]
    · simp [z, forL, b_require_prices_f0, require_number_ok hx h1, require_number_no hy h2]
  have hp2 : h_price_wait_plain [r] [x, y] m = .exc ⟨"InvalidNumber", [("value", v)]⟩ m := by
    rw [r_price_wait_plain]
    unfold b_price
    simp [hp]
  have hr : reprO [v] m = some (.str d.shown, m) := by
    simp only [reprO, hd, hs, hl, and_self, if_true]
  have hlk : List.lookup ("InvalidNumber" : Str) [(("InvalidStep" : Str), false), (("InvalidStock" : Str), false), (("InvalidNumber" : Str), true)] = some true := by decide
  have hf : List.lookup ("value" : Str) [(("value" : Str), v)] = some v := by simp
  simp [sTry, tryH, hp2, hlk, hLst, hCons, hC, hRepr, hFld, hNil, bind_run, hf, liftN, hr, z]
end
end K55
end

section
set_option Elab.async false
set_option linter.all false
set_option maxRecDepth 100000
set_option maxHeartbeats 2000000
namespace K55
open PySem Mi L2
section
variable {m : MH}
/-! ### the law's own look at takes and gives -/
theorem forL_cons {gt : GM} {body : SM} {a : MV} {xs : List MV} {e : ME} : forL gt body (a :: xs) e m = (match gt a e with
  | none => .bad
  | some e1 => (match body e1 m with
    | .nx e2 m2 => forL gt body xs e2 m2
    | .ct e2 m2 => forL gt body xs e2 m2
    | .bk e2 m2 => .nx e2 m2
    | o => o)) := rfl
theorem collL_cons {turn : MV → MM (List MV)} {a : MV} {xs : List MV} : collL turn (a :: xs) m = (match turn a m with
  | .ok ys m2 => (match collL turn xs m2 with
    | .ok zs m3 => .ok (ys ++ zs) m3
    | _ => .bad)
  | _ => .bad) := rfl
theorem in_strsC {x : Str} {ys : List Str} (hx : okS x) (hy : ∀ y ∈ ys, okS y) : inB (.str x) (.con (ys.map .str)) m = some (ys.contains x) := by
  rw [← mvDs_strs]
  unfold inB
  rw [datS_con (lay_strs hy) (by rw [depth_strs]; omega), show datS m (.str x) = some (.str x) from datS_mvD (d := .str x) hx (Nat.zero_le _)]
  simp only [any_str]
theorem eq_emptyC {ys : List Str} (hy : ∀ y ∈ ys, okS y) : Mi.eqO false (.con (ys.map .str)) (.con []) m = some (.bl ys.isEmpty, m) := by
  rw [← mvDs_strs]
  have := eqO_mvD (m := m) (neg := false) (d := .list (ys.map .str)) (f := .list []) (by simpa [PyData.canLay0] using lay_strs hy) (by rw [PyData.depth, depth_strs]; decide) (by decide) (by decide)
  refine this.trans ?_
  cases ys <;> simp [PyData.eqv, PyData.eqvAll]
theorem lb_turn {p : Step} {own : List Str} {all : List Step} {k : Nat} (hp : Good p) (ho : ∀ y ∈ own, okS y) (hr : ∀ q ∈ all, okP q) (hk : own.length < 1000) :
    b__law_balanced_f0 [some (.con (sl all)), some (.con (own.map .str)), some (.int k), some (.str p.1), some (.str p.2)] m = if isW p own own (all.drop (k + 1)) = true then .rt (.bl false) m else .nx [some (.con (sl all)), some (.con ((stepO p own).map .str)), some (.int k), some (.str p.1), some (.str p.2)] m := by
  have z2 : (2 : Nat) ≤ sizeLine := by decide
  have z0 : (0 : Nat) ≤ sizeLine := by decide
  have z1' : (1 : Nat) ≤ sizeLine := by decide
  have z1 : own.length + 1 ≤ sizeLine := Nat.le_trans (by omega) (show 2000 ≤ sizeLine by decide)
  have hcut : cutM (sl all) (some ((k : Int) + 1)) none = sl (all.drop (k + 1)) := by
    rw [show ((k : Int) + 1) = ((k + 1 : Nat) : Int) from by omega, cut_from, sl, sl, List.map_drop]
  have hd : ∀ q ∈ all.drop (k + 1), okP q := fun q hq => hr q (List.mem_of_mem_drop hq)
  generalize all.drop (k + 1) = r at hcut hd
  have hg : okP (("give" : Str), p.2) := ⟨ok_give, hp.ok.2⟩
  obtain ⟨w, n⟩ := p
  have hw1 := hp.ok.1
  have hn := hp.ok.2
  simp only at hw1 hn hg
  unfold b__law_balanced_f0
  by_cases h1 : w = "take"
  · subst h1
    have q : (("take" : Str) == ("give" : Str)) = false := by decide
    by_cases hm : n ∈ own
    · simp [eq_str ok_take ok_take, in_strsC hn ho, hm, isW]
    · by_cases hk : (("give" : Str), n) ∈ r
      · simp [eq_str ok_take ok_take, eq_str ok_take ok_give, in_strsC hn ho, hm, isW, z2, hcut, in_con hg hd, hk, q, stepO, z1, z1']
      · simp [eq_str ok_take ok_take, in_strsC hn ho, hm, isW, z2, hcut, in_con hg hd, hk]
  · have h1' := beq_eq_false_iff_ne.mpr h1
    by_cases h2 : w = "give"
    · subst h2
      cases hl : own.getLast? with
      | none =>
        have : own = [] := List.getLast?_eq_none_iff.mp hl
        subst this
        have en : Mi.eqO false (.con []) (.con []) m = some (.bl true, m) := rfl
        simp [eq_str ok_give ok_take, eq_str ok_give ok_give, en, isW, z0, h1, h1']
      | some y =>
        have hne : own.isEmpty = false := by cases own with | nil => cases hl | cons _ _ => rfl
        have hy : okS y := ho y (List.mem_of_getLast? hl)
        by_cases hyn : y = n
        · subst hyn
          simp [eq_str ok_give ok_take, eq_str ok_give ok_give, eq_emptyC (m := m) ho, isW, z0, h1, h1', hne, atI_m1, List.getLast?_map, hl, eq_str hy hn, stepO, cut_most]
        · have hyn' := beq_eq_false_iff_ne.mpr hyn
          simp [eq_str ok_give ok_take, eq_str ok_give ok_give, eq_emptyC (m := m) ho, isW, z0, h1, h1', hne, atI_m1, List.getLast?_map, hl, eq_str hy hn, hyn, hyn']
    · have h2' := beq_eq_false_iff_ne.mpr h2
      simp [eq_str hw1 ok_take, eq_str hw1 ok_give, h1, h2, h1', h2', isW, stepO]
theorem lb_loop : ∀ (r pre : List Step) (own : List Str) (x2 x3 x4 : Option MV), (∀ q ∈ pre ++ r, Good q) → (∀ y ∈ own, okS y) → own.length + r.length < 1000 →
    (∃ e, (wr own r).all (fun q => !q) = true ∧ forL (gTp (gsCons (gNm 2) (gsCons (gTp (gsCons (gNm 3) (gsCons (gNm 4) gsNil))) gsNil))) b__law_balanced_f0 (enumL pre.length (sl r)) [some (.con (sl (pre ++ r))), some (.con (own.map .str)), x2, x3, x4] m = .nx e m) ∨
    ((wr own r).all (fun q => !q) = false ∧ forL (gTp (gsCons (gNm 2) (gsCons (gTp (gsCons (gNm 3) (gsCons (gNm 4) gsNil))) gsNil))) b__law_balanced_f0 (enumL pre.length (sl r)) [some (.con (sl (pre ++ r))), some (.con (own.map .str)), x2, x3, x4] m = .rt (.bl false) m)
  | [], pre, own, x2, x3, x4, hg, ho, hk => .inl ⟨_, rfl, rfl⟩
  | p :: r, pre, own, x2, x3, x4, hg, ho, hk => by
    have hp : Good p := hg p (by simp)
    have h1 := lb_turn (m := m) (p := p) (own := own) (all := pre ++ p :: r) (k := pre.length) hp ho (fun q hq => (hg q hq).ok) (by simp at hk; omega)
    have hd : (pre ++ p :: r).drop (pre.length + 1) = r := by
      rw [show pre ++ p :: r = (pre ++ [p]) ++ r by simp, List.drop_left' (by simp)]
    rw [hd] at h1
    have e0 : forL (gTp (gsCons (gNm 2) (gsCons (gTp (gsCons (gNm 3) (gsCons (gNm 4) gsNil))) gsNil))) b__law_balanced_f0 (enumL pre.length (sl (p :: r))) [some (.con (sl (pre ++ p :: r))), some (.con (own.map .str)), x2, x3, x4] m = (match b__law_balanced_f0 [some (.con (sl (pre ++ p :: r))), some (.con (own.map .str)), some (.int (pre.length : Nat)), some (.str p.1), some (.str p.2)] m with
      | .nx e2 m2 => forL (gTp (gsCons (gNm 2) (gsCons (gTp (gsCons (gNm 3) (gsCons (gNm 4) gsNil))) gsNil))) b__law_balanced_f0 (enumL (pre.length + 1) (sl r)) e2 m2
      | .ct e2 m2 => forL (gTp (gsCons (gNm 2) (gsCons (gTp (gsCons (gNm 3) (gsCons (gNm 4) gsNil))) gsNil))) b__law_balanced_f0 (enumL (pre.length + 1) (sl r)) e2 m2
      | .bk e2 m2 => .nx e2 m2
      | o => o) := rfl
    rw [e0, h1]
    by_cases hw : isW p own own r = true
    · rw [if_pos hw]
      exact .inr ⟨by simp [wr, hw], rfl⟩
    · rw [if_neg hw]
      have hw' : isW p own own r = false := by simpa using hw
      have := lb_loop r (pre ++ [p]) (stepO p own) (some (.int (pre.length : Nat))) (some (.str p.1)) (some (.str p.2)) (fun q hq => hg q (by simpa using hq)) (stepO_ok hp.ok ho) (by have := stepO_len (p := p) (own := own); simp at hk ⊢; omega)
      have e2 : (pre ++ [p]) ++ r = pre ++ p :: r := by simp
      rw [e2, show (pre ++ [p]).length = pre.length + 1 by simp] at this
      have ew : (wr own (p :: r)).all (fun q => !q) = (wr (stepO p own) r).all (fun q => !q) := by simp [wr, hw']
      rw [ew]
      exact this
theorem law_balanced_ok {ps : List Step} (hg : ∀ q ∈ ps, Good q) (hk : ps.length < 400) : h__law_balanced [.con (sl ps)] [] m = .ok (.bl (bal ps)) m := by
  rw [r__law_balanced]
  unfold b__law_balanced
  have z0 : (0 : Nat) ≤ sizeLine := by decide
  have h0 : sSet 1 (eLstC aNil) [some (.con (sl ps)), none, none, none, none] m = .nx [some (.con (sl ps)), some (.con []), none, none, none] m := by simp [z0]
  rw [seq_nx h0]
  have hs : ∀ o, forL (gTp (gsCons (gNm 2) (gsCons (gTp (gsCons (gNm 3) (gsCons (gNm 4) gsNil))) gsNil))) b__law_balanced_f0 (enumL 0 (sl ps)) [some (.con (sl ps)), some (.con []), none, none, none] m = o → sFor (iEnumM (eVar 0)) (gTp (gsCons (gNm 2) (gsCons (gTp (gsCons (gNm 3) (gsCons (gNm 4) gsNil))) gsNil))) b__law_balanced_f0 [some (.con (sl ps)), some (.con []), none, none, none] m = o := fun o h => by
    simp only [sfor, ienum, ev0, srcEnum_con, sfx]
    exact h
  rcases lb_loop (m := m) ps [] [] none none none (by simpa using hg) (by simp) (by simp; omega) with ⟨e, h1, h2⟩ | ⟨h1, h2⟩
  · rw [seq_nx (hs _ h2)]
    have : bal ps = true := h1
    simp [this]
  · rw [seq_rt (hs _ h2)]
    have : bal ps = false := h1
    simp [this]
/-! ### the law's own listing -/
def nextS (st : List Step) (line : List (List Step)) : List (List Step) := line.flatMap fun r => (st.filter fun p => !r.contains p).map fun p => r ++ [p]
def lineS (st : List Step) : Nat → List (List Step)
  | 0 => [[]]
  | t + 1 => nextS st (lineS st t)
/-- rows as values -/
def rl (rs : List (List Step)) : List MV := rs.map fun r => .con (sl r)
theorem more_turn {st r : List Step} {more : List (List Step)} {x1 x2 x3 x4 x7 : Option MV} (hs : ∀ q ∈ st, Good q) (hr : ∀ q ∈ r, Good q) (h1 : r.length < 1000) (h2 : more.length + st.length < 1000000) :
    b__law_listed_f0 [some (.con (sl st)), x1, x2, x3, x4, some (.con (rl more)), some (.con (sl r)), x7] m = .nx [some (.con (sl st)), x1, x2, x3, x4, some (.con (rl (more ++ (st.filter fun p => !r.contains p).map fun p => r ++ [p]))), some (.con (sl r)), x7] m := by
  unfold b__law_listed_f0
  have z1 : (1 : Nat) ≤ sizeLine := by decide
  have z2 : r.length + 1 ≤ sizeLine := Nat.le_trans (by omega) (show 2000 ≤ sizeLine by decide)
  have hc : collL (turnC (gNm 7) (tOf (eBin (lift2 (inO true)) (eVar 7) (eVar 6))) (eBin (lift2 addO) (eVar 6) (eLstC (aCons (eVar 7) aNil))) [some (.con (sl st)), x1, x2, x3, x4, some (.con (rl more)), some (.con (sl r)), none]) (sl st) m = .ok ((sl st).flatMap fun x => match x with
      | .tup [.str a, .str b] => if r.contains (a, b) then [] else [.con (sl (r ++ [(a, b)]))]
      | _ => []) m := by
    refine collL_pure fun x hx => ?_
    obtain ⟨p, hp, rfl⟩ := List.mem_map.mp hx
    have hi := in_con (m := m) (p := p) (ps := r) (hs p hp).ok fun q hq => (hr q hq).ok
    have e : sl r ++ [MV.tup [.str p.1, .str p.2]] = sl (r ++ [p]) := by simp [sl, sm]
    by_cases hm : p ∈ r
    · have hm' : r.contains (p.1, p.2) = true := by simpa using hm
      simp [sm, hi, hm]
    · simp [sm, hi, hm, z1, sl_length, z2, e]
  have hf : ((sl st).flatMap fun x => match x with
      | .tup [.str a, .str b] => if r.contains (a, b) then [] else [.con (sl (r ++ [(a, b)]))]
      | _ => []) = rl ((st.filter fun p => !r.contains p).map fun p => r ++ [p]) := by
    clear hc hs h2
    induction st with
    | nil => rfl
    | cons p st ih =>
      rw [sl, List.map_cons, List.flatMap_cons, ← sl, ih]
      by_cases hm : p ∈ r
      · have hm' : r.contains p = true := by simpa using hm
        simp [sm, hm, rl]
      · simp [sm, hm, rl]
  rw [hf] at hc
  have hl : (rl ((st.filter fun p => !r.contains p).map fun p => r ++ [p])).length ≤ st.length := by
    simp only [rl, List.length_map]
    exact List.length_filter_le _ _
  have z3 : (rl ((st.filter fun p => !r.contains p).map fun p => r ++ [p])).length ≤ sizeLine := Nat.le_trans (Nat.le_trans hl (by omega)) (show 1000000 ≤ sizeLine by decide)
  have z4 : (rl more).length + (rl ((st.filter fun p => !r.contains p).map fun p => r ++ [p])).length ≤ sizeLine := Nat.le_trans (show _ ≤ 1000000 by rw [show (rl more).length = more.length by simp [rl]]; omega) (by decide)
  simp only [sset, ebin, evS, ev0, ecomp, iseq, srcSeq_con, cfx, wipeM, List.set_cons_succ, List.set_cons_zero, hc, if_pos z3, lift2_run, addO_con, if_pos z4]
  simp [rl]
theorem more_loop {st : List Step} {x1 x2 x3 x4 : Option MV} (hs : ∀ q ∈ st, Good q) : ∀ (rs more : List (List Step)) (x6 x7 : Option MV), (∀ r ∈ rs, (∀ q ∈ r, Good q) ∧ r.length < 1000) → more.length + rs.length * st.length + st.length < 1000000 →
    ∃ y6, forL (gNm 6) b__law_listed_f0 (rl rs) [some (.con (sl st)), x1, x2, x3, x4, some (.con (rl more)), x6, x7] m = .nx [some (.con (sl st)), x1, x2, x3, x4, some (.con (rl (more ++ nextS st rs))), y6, x7] m
  | [], more, x6, x7, _, _ => ⟨x6, by simp [rl, forL, nextS]⟩
  | r :: rs, more, x6, x7, h, hk => by
    have hr := h r List.mem_cons_self
    have hlen : ((st.filter fun p => !r.contains p).map fun p => r ++ [p]).length ≤ st.length := by rw [List.length_map]; exact List.length_filter_le _ _
    have hmul : (r :: rs).length * st.length = rs.length * st.length + st.length := by rw [List.length_cons, Nat.succ_mul]
    obtain ⟨y6, e⟩ := more_loop (x1 := x1) (x2 := x2) (x3 := x3) (x4 := x4) hs rs (more ++ (st.filter fun p => !r.contains p).map fun p => r ++ [p]) (some (.con (sl r))) x7 (fun r hr => h r (List.mem_cons_of_mem _ hr)) (by rw [List.length_append]; omega)
    refine ⟨y6, ?_⟩
    have e1 := more_turn (m := m) (x1 := x1) (x2 := x2) (x3 := x3) (x4 := x4) (x7 := x7) hs hr.1 hr.2 (more := more) (by omega)
    rw [show nextS st (r :: rs) = ((st.filter fun p => !r.contains p).map fun p => r ++ [p]) ++ nextS st rs by simp [nextS], ← List.append_assoc, ← e]
    show forL (gNm 6) b__law_listed_f0 (.con (sl r) :: rl rs) _ m = _
    rw [forL_cons]
    simp only [gnm, List.set_cons_succ, List.set_cons_zero, e1]
theorem lineS_mem {st : List Step} {Q : Step → Prop} (h : ∀ q ∈ st, Q q) : ∀ (t : Nat), ∀ r ∈ lineS st t, (∀ q ∈ r, Q q) ∧ r.length = t
  | 0, r, hr => by
    rw [List.mem_singleton.mp hr]
    exact ⟨fun q hq => (by cases hq), rfl⟩
  | t + 1, r, hr => by
    obtain ⟨s, hs, hr⟩ := List.mem_flatMap.mp hr
    obtain ⟨p, hp, rfl⟩ := List.mem_map.mp hr
    obtain ⟨h1, h2⟩ := lineS_mem h t s hs
    refine ⟨fun q hq => ?_, by simp [h2]⟩
    rcases List.mem_append.mp hq with z | z
    · exact h1 q z
    · rw [List.mem_singleton.mp z]; exact h p (List.mem_filter.mp hp).1
theorem nextS_len {st : List Step} : ∀ (rs : List (List Step)), (nextS st rs).length ≤ rs.length * st.length
  | [] => by simp [nextS]
  | r :: rs => by
    have := nextS_len (st := st) rs
    have h2 : (st.filter fun p => !r.contains p).length ≤ st.length := List.length_filter_le _ _
    rw [show nextS st (r :: rs) = ((st.filter fun p => !r.contains p).map fun p => r ++ [p]) ++ nextS st rs by simp [nextS], List.length_append, List.length_map, List.length_cons, Nat.succ_mul]
    omega
theorem lineS_len {st : List Step} (h : st.length ≤ 6) : ∀ t, (lineS st t).length ≤ 6 ^ t
  | 0 => by simp [lineS]
  | t + 1 => by
    refine Nat.le_trans (nextS_len _) ?_
    rw [Nat.pow_succ]
    exact Nat.mul_le_mul (lineS_len h t) h
/-- what is found in turns t + 1 .. t + k -/
def foundS (st : List Step) (t : Nat) : Nat → List (List Step)
  | 0 => []
  | k + 1 => lineS st (t + 1) ++ foundS st (t + 1) k
theorem foundS_len {st : List Step} (h : st.length ≤ 6) : ∀ (k t : Nat), t + k ≤ 6 → (foundS st t k).length ≤ 60000 * k
  | 0, t, _ => by simp [foundS]
  | k + 1, t, hk => by
    have h1 := foundS_len h k (t + 1) (by omega)
    have h2 := lineS_len h (t + 1)
    have h3 : 6 ^ (t + 1) ≤ 6 ^ 6 := Nat.pow_le_pow_right (by decide) (by omega)
    rw [foundS, List.length_append]
    have : (6 : Nat) ^ 6 = 46656 := by decide
    omega
theorem listed_loop {st : List Step} {x1 : Option MV} (hs : ∀ q ∈ st, Good q) (h6 : st.length ≤ 6) : ∀ (xs : List MV) (t : Nat) (found : List (List Step)) (x4 x5 x6 x7 : Option MV), t + xs.length ≤ 6 → found.length + 60000 * xs.length ≤ 400000 →
    ∃ y4 y5 y6 y7 line, forL (gNm 4) b__law_listed_f1 xs [some (.con (sl st)), x1, some (.con (rl (lineS st t))), some (.con (rl found)), x4, x5, x6, x7] m = .nx [some (.con (sl st)), x1, line, some (.con (rl (found ++ foundS st t xs.length))), y4, y5, y6, y7] m
  | [], t, found, x4, x5, x6, x7, _, _ => ⟨x4, x5, x6, x7, _, by simp [forL, foundS]; rfl⟩
  | x :: xs, t, found, x4, x5, x6, x7, ht, hk => by
    have hl := lineS_len h6 t
    have hl1 := lineS_len h6 (t + 1)
    have p1 : 6 ^ t ≤ 6 ^ 5 := Nat.pow_le_pow_right (by decide) (by simp at ht; omega)
    have p2 : 6 ^ (t + 1) ≤ 6 ^ 6 := Nat.pow_le_pow_right (by decide) (by simp at ht; omega)
    have c5 : (6 : Nat) ^ 5 = 7776 := by decide
    have c6 : (6 : Nat) ^ 6 = 46656 := by decide
    have z0 : (0 : Nat) ≤ sizeLine := by decide
    have hm : (lineS st t).length * st.length ≤ 7776 * 6 := Nat.mul_le_mul (by omega) h6
    obtain ⟨y6, e⟩ := more_loop (m := m) (x1 := x1) (x2 := some (.con (rl (lineS st t)))) (x3 := some (.con (rl found))) (x4 := some x) hs (lineS st t) [] x6 x7 (fun r hr => ⟨(lineS_mem hs t r hr).1, by rw [(lineS_mem hs t r hr).2]; simp at ht; omega⟩) (by simp; omega)
    have e0 : rl ([] : List (List Step)) = [] := rfl
    rw [e0, List.nil_append] at e
    have z : (rl found).length + (rl (lineS st (t + 1))).length ≤ sizeLine := Nat.le_trans (show _ ≤ 1000000 by simp [rl] at hk ⊢; omega) (by decide)
    have b : b__law_listed_f1 [some (.con (sl st)), x1, some (.con (rl (lineS st t))), some (.con (rl found)), some x, x5, x6, x7] m = .nx [some (.con (sl st)), x1, some (.con (rl (lineS st (t + 1)))), some (.con (rl (found ++ lineS st (t + 1)))), some x, some (.con (rl (lineS st (t + 1)))), y6, x7] m := by
      unfold b__law_listed_f1
      have a1 : sSet 5 (eLstC aNil) [some (.con (sl st)), x1, some (.con (rl (lineS st t))), some (.con (rl found)), some x, x5, x6, x7] m = .nx [some (.con (sl st)), x1, some (.con (rl (lineS st t))), some (.con (rl found)), some x, some (.con []), x6, x7] m := by simp [z0]
      have a2 : sFor (iSeqM (eVar 2)) (gNm 6) b__law_listed_f0 [some (.con (sl st)), x1, some (.con (rl (lineS st t))), some (.con (rl found)), some x, some (.con []), x6, x7] m = .nx [some (.con (sl st)), x1, some (.con (rl (lineS st t))), some (.con (rl found)), some x, some (.con (rl (lineS st (t + 1)))), y6, x7] m := by
        simp only [sfor, iseq, evS, ev0, srcSeq_con, sfx]
        exact e
      rw [seq_nx a1, seq_nx a2]
      simp [z]
      simp [rl]
    obtain ⟨y4, y5, z6, y7, line, e2⟩ := listed_loop (x1 := x1) hs h6 xs (t + 1) (found ++ lineS st (t + 1)) (some x) (some (.con (rl (lineS st (t + 1))))) y6 x7 (by simp at ht ⊢; omega) (by simp at hk ⊢; omega)
    refine ⟨y4, y5, z6, y7, line, ?_⟩
    rw [forL_cons]
    simp only [gnm, List.set_cons_succ, List.set_cons_zero, b]
    rw [List.length_cons, foundS, ← List.append_assoc, ← e2]
def listed (st : List Step) (L : Nat) : List (List Step) := ([] :: foundS st 0 L).filter bal
theorem foundS_mem {st : List Step} : ∀ (k t : Nat), ∀ r ∈ foundS st t k, ∃ u, u ≤ t + k ∧ r ∈ lineS st u
  | 0, t, r, hr => by cases hr
  | k + 1, t, r, hr => by
    rcases List.mem_append.mp hr with z | z
    · exact ⟨t + 1, by omega, z⟩
    · obtain ⟨u, h1, h2⟩ := foundS_mem k (t + 1) r z
      exact ⟨u, by omega, h2⟩
theorem keep_comp {x0 x1 x2 x3 x4 x5 x7 : Option MV} : ∀ (rs : List (List Step)), (∀ r ∈ rs, (∀ q ∈ r, Good q) ∧ r.length ≤ 6) → collL (turnC (gNm 6) (tOf (eCall (fun as => h__law_balanced as []) (aCons (eVar 6) aNil))) (eVar 6) [x0, x1, x2, x3, x4, x5, none, x7]) (rl rs) m = .ok ((rs.filter bal).map fun r => .con (sl r)) m
  | [], _ => rfl
  | r :: rs, hmem => by
    have hr := hmem r List.mem_cons_self
    have hb := law_balanced_ok (m := m) hr.1 (show r.length < 400 by omega)
    have ih := keep_comp (x0 := x0) (x1 := x1) (x2 := x2) (x3 := x3) (x4 := x4) (x5 := x5) (x7 := x7) rs fun r hr => hmem r (List.mem_cons_of_mem _ hr)
    show collL _ (.con (sl r) :: rl rs) m = _
    rw [collL_cons]
    cases hq : bal r <;> rw [hq] at hb <;> simp [hb, hq, ih]
theorem law_listed_ok {st : List Step} {L : Nat} (hs : ∀ q ∈ st, Good q) (h6 : st.length ≤ 6) (hL : L ≤ 6) : h__law_listed [.con (sl st), .int L] [] m = .ok (.con (rl (listed st L))) m := by
  rw [r__law_listed]
  unfold b__law_listed
  have z0 : (0 : Nat) ≤ sizeLine := by decide
  have z1 : (1 : Nat) ≤ sizeLine := by decide
  have a1 : sPar 2 3 (aCons (eLstC (aCons (eLstC aNil) aNil)) (aCons (eLstC (aCons (eLstC aNil) aNil)) aNil)) [some (.con (sl st)), some (.int L), none, none, none, none, none, none] m = .nx [some (.con (sl st)), some (.int L), some (.con (rl (lineS st 0))), some (.con (rl [[]])), none, none, none, none] m := by
    simp [z0, z1, lineS, rl, sl]
  have hlen : (rngL 0 (L : Int)).length = L := by simp [rngL]
  obtain ⟨y4, y5, y6, y7, line, e⟩ := listed_loop (m := m) (x1 := some (.int L)) hs h6 (rngL 0 (L : Int)) 0 [[]] none none none none (by rw [hlen]; omega) (by rw [hlen]; simp; omega)
  rw [hlen] at e
  have a2 : sFor (iRange1 (eVar 1)) (gNm 4) b__law_listed_f1 [some (.con (sl st)), some (.int L), some (.con (rl (lineS st 0))), some (.con (rl [[]])), none, none, none, none] m = .nx [some (.con (sl st)), some (.int L), line, some (.con (rl ([[]] ++ foundS st 0 L))), y4, y5, y6, y7] m := by
    rw [sfor, irange_nat (m1 := m) (L := L) rfl (by omega)]
    exact e
  rw [seq_nx a1, seq_nx a2]
  have hmem : ∀ r ∈ [[]] ++ foundS st 0 L, (∀ q ∈ r, Good q) ∧ r.length ≤ 6 := fun r hr => by
    rcases List.mem_append.mp hr with z | z
    · rw [List.mem_singleton.mp z]; exact ⟨fun q hq => (by cases hq), by simp⟩
    · obtain ⟨u, h1, h2⟩ := foundS_mem L 0 r z
      obtain ⟨h3, h4⟩ := lineS_mem hs u r h2
      exact ⟨h3, by omega⟩
  have hc := keep_comp (m := m) (x0 := some (.con (sl st))) (x1 := some (.int L)) (x2 := line) (x3 := some (.con (rl ([[]] ++ foundS st 0 L)))) (x4 := y4) (x5 := y5) (x7 := y7) _ hmem
  have hlf := foundS_len h6 L 0 (by omega)
  have hl1 : ((([[]] ++ foundS st 0 L).filter bal).map fun r => MV.con (sl r)).length ≤ sizeLine := by
    rw [List.length_map]
    refine Nat.le_trans (List.length_filter_le _ _) (Nat.le_trans (show _ ≤ 400000 by simp; omega) (by decide))
  simp only [sret, ecomp, iseq, evS, ev0, srcSeq_con, cfx, wipeM, List.set_cons_succ, List.set_cons_zero, hc, if_pos hl1, ofSO_rt]
  rfl
end
end K55
end

section
set_option Elab.async false
set_option linter.all false
set_option maxRecDepth 100000
set_option maxHeartbeats 2000000
namespace K55
open PySem Mi L2
section
variable {m : MH}
/-! ### the stock is looked at -/
theorem bools_true : ∀ ps : List Step, boolsOf (ps.map fun _ => MV.bl true) = some (ps.map fun _ => true)
  | [] => rfl
  | p :: ps => by
    show (boolsOf (ps.map fun _ => MV.bl true)).map (true :: ·) = _
    rw [bools_true ps]; rfl
theorem stepsM_sl : ∀ ps : List Step, stepsM (sl ps) = some (ps.map fun p => [p.1, p.2])
  | [] => rfl
  | p :: ps => by
    show (match strsM [.str p.1, .str p.2], stepsM (sl ps) with
      | some k, some ks => some (k :: ks)
      | _, _ => none) = _
    rw [stepsM_sl ps]; rfl
theorem onceL_nd {α : Type} [DecidableEq α] : ∀ {l : List α}, l.Nodup → onceL l = l
  | [], _ => rfl
  | a :: l, h => by
    obtain ⟨h1, h2⟩ := List.nodup_cons.mp h
    unfold onceL
    rw [if_neg h1, onceL_nd h2]
theorem nd_pairs {ps : List Step} (h : ps.Nodup) : (ps.map fun p => [p.1, p.2]).Nodup := by
  refine List.Pairwise.map _ (fun a b hab z => hab ?_) h
  simp at z
  exact Prod.ext z.1 z.2
theorem flat_const {v : MV} : ∀ ps : List Step, (sl ps).flatMap (fun _ => [v]) = ps.map fun _ => v
  | [] => rfl
  | p :: ps => by
    rw [sl, List.map_cons, List.flatMap_cons, ← sl, flat_const ps]; rfl
theorem all_steps {ps : List Step} {x0 : Option MV} (h : ∀ q ∈ ps, Valid q) : collL (turnC (gNm 1) tYesM (eCall (fun as => h_is_step as []) (aCons (eVar 1) aNil)) [x0, none]) (sl ps) m = .ok (ps.map fun _ => .bl true) m := by
  have := collL_pure (turn := turnC (gNm 1) tYesM (eCall (fun as => h_is_step as []) (aCons (eVar 1) aNil)) [x0, none]) (φ := fun _ => [.bl true]) (m := m) (xs := sl ps) fun x hx => by
    obtain ⟨p, hp, rfl⟩ := List.mem_map.mp hx
    simp [is_step_ok (h p hp)]
  rw [this, flat_const]
structure Stock (st : List Step) : Prop where
  v : ∀ q ∈ st, Valid q
  nd : st.Nodup
  pos : 0 < st.length
  most : st.length ≤ 6
theorem chain_len {n : Nat} {xs : List MV} {e : ME} (h : xs.length = n) : eChain (lift2 leO) (lift2 leO) (eC (.int 1)) (eApp lenO (aCons (eVar 0) aNil)) (eC (.int 6)) (some (.con xs) :: e) m = .ok (.bl (decide (1 ≤ n) && decide (n ≤ 6))) m := by
  subst h
  by_cases h1 : 1 ≤ xs.length
  · have : (1 : Int) ≤ xs.length := by omega
    simp [this, h1]
    omega
  · have : ¬ (1 : Int) ≤ xs.length := by omega
    simp [this, h1]
theorem require_stock_ok {st : List Step} (h : Stock st) : h_require_stock [.con (sl st)] [] m = .ok .non m := by
  rw [r_require_stock]
  unfold b_require_stock
  have h1 := chain_len (m := m) (xs := sl st) (n := st.length) (e := [none]) sl_length
  have e1 : (decide (1 ≤ st.length) && decide (st.length ≤ 6)) = true := by
    have := h.pos
    have := h.most
    simp; omega
  rw [e1] at h1
  have z : st.length ≤ sizeLine := Nat.le_trans h.most (by decide)
  have ha : allO false [.con (st.map fun _ => MV.bl true)] m = some (.bl true, m) := by
    unfold allO
    simp only [lstM, Option.bind_some, bools_true, Option.map_some]
    simp
  have hs : eLenSet (eVar 0) [some (.con (sl st)), none] m = .ok (.int st.length) m := by
    show (match (lstM m (.con (sl st))).bind stepsM with
      | some ks => if ks.length < 64 then .ok (.int (onceL ks).length) m else .bad
      | none => .bad : Res MV) = _
    rw [show (lstM m (.con (sl st))).bind stepsM = stepsM (sl st) from rfl, stepsM_sl]
    simp only [List.length_map]
    rw [if_pos (by have := h.most; omega), onceL_nd (nd_pairs h.nd), List.length_map]
  have a1 : sIf (tOrM (tNotM (tOf (eIsi (tab6 false false false false false true) (eVar 0)))) (tNotM (tOf (eChain (lift2 leO) (lift2 leO) (eC (.int 1)) (eApp (lenO) (aCons (eVar 0) aNil)) (eC (.int 6)))))) (sRaise "InvalidStock" "value" (eVar 0)) sNil [some (.con (sl st)), none] m = .nx [some (.con (sl st)), none] m := by
    simp only [sif, tor, tnot, tof, eisi, ev0, isO6_con, h1, Bool.not_true, snil]
  rw [seq_nx a1]
  have en : Mi.eqO true (.int (st.length : Nat)) (.int ((sl st).length : Nat)) m = some (.bl false, m) := by
    rw [sl_length, eq_int]; simp
  have hc := all_steps (m := m) (x0 := some (.con (sl st))) h.v
  have z' : (st.map fun _ => MV.bl true).length ≤ sizeLine := by rw [List.length_map]; exact z
  simp only [sif, tor, tnot, tof, eapp, acons, anil, ecomp, iseq, ev0, srcSeq_con, cfx, wipeM, List.set_cons_succ, List.set_cons_zero, hc, if_pos z', ha, Bool.not_true, ebin, hs, lenO_con, lift2_run, en, snil, ofSO_nx]
/-! ### the generator -/
theorem gseq_pl {s : SM} {h : GMd} {e e1 : ME} {m1 : MH} (hs : s e m = .nx e1 m1) : gSeqQ (gPl s) h e m = h e1 m1 := by
  simp [gSeqQ, gThen, gPl, hs]
theorem gseq_nil {g : GMd} {e : ME} : gSeqQ g gNilQ e m = g e m := by
  unfold gSeqQ gThen gNilQ
  cases h : g e m with
  | mk ys so => cases so <;> simp
theorem forLo_cons {gt : GM} {body : GMd} {a : MV} {xs : List MV} {e : ME} : forLo gt body (a :: xs) e m = (match gt a e with
  | none => ([], .bad)
  | some e1 => gLoop (body e1 m) (forLo gt body xs)) := rfl
def stp (st : List Step) (i : Nat) : Step := st.getD i ("", "")
def ixs (c : List Nat) : List MV := c.map fun i => .int (i : Nat)
theorem stp_at {st : List Step} {i : Nat} (h : i < st.length) : atI (sl st) (i : Nat) = some (sm (stp st i)) := by
  rw [Mi.atI_nat, sl, List.getElem?_map, List.getElem?_eq_getElem h]
  simp [stp, List.getD_eq_getElem?_getD, h]
theorem stp_mem {st : List Step} {i : Nat} (h : i < st.length) : stp st i ∈ st := by
  simp [stp, List.getD_eq_getElem?_getD, h]
theorem pick_ok {st : List Step} {x1 x2 x3 x5 x6 : Option MV} : ∀ {c : List Nat} {y4 : Option MV}, (∀ i ∈ c, i < st.length) → collL (turnC (gNm 6) tYesM (eBin (lift2 ixO) (eVar 0) (eVar 6)) [some (.con (sl st)), x1, x2, x3, y4, x5, none]) (ixs c) m = .ok (sl (c.map (stp st))) m
  | [], y4, _ => rfl
  | i :: c, y4, h => by
    have ih := pick_ok (st := st) (x1 := x1) (x2 := x2) (x3 := x3) (x5 := x5) (x6 := x6) (c := c) (y4 := y4) fun j hj => h j (List.mem_cons_of_mem _ hj)
    show collL _ (.int (i : Nat) :: ixs c) m = _
    rw [collL_cons]
    simp [stp_at (h i List.mem_cons_self), ih]
    simp [sl]
theorem f0_ok {st : List Step} {c : List Nat} {x1 x2 x3 x5 x6 : Option MV} (hs : ∀ q ∈ st, Valid q) (hc : ∀ i ∈ c, i < st.length) (hk : c.length ≤ 7) :
    ∃ t, b_rows_of_f0 [some (.con (sl st)), x1, x2, x3, some (.tup (ixs c)), x5, x6] m = (([c.map (stp st)].filter bal).map row, .nx [some (.con (sl st)), x1, x2, x3, some (.tup (ixs c)), some (.con (sl (c.map (stp st)))), x6] (m ++ t)) := by
  have hv : ∀ q ∈ c.map (stp st), Valid q := fun q hq => by
    obtain ⟨i, hi, rfl⟩ := List.mem_map.mp hq
    exact hs _ (stp_mem (hc i hi))
  obtain ⟨t, hb⟩ := is_balanced_ok (m := m) (fun q hq => (hv q hq).good) (show (c.map (stp st)).length < 400 by rw [List.length_map]; omega)
  have z : (sl (c.map (stp st))).length ≤ sizeLine := Nat.le_trans (show _ ≤ 7 by rw [sl_length, List.length_map]; exact hk) (by decide)
  have a1 : sSet 5 (eComp (iSeqM (eVar 4)) [6] (turnC (gNm 6) tYesM (eBin (lift2 ixO) (eVar 0) (eVar 6)))) [some (.con (sl st)), x1, x2, x3, some (.tup (ixs c)), x5, x6] m = .nx [some (.con (sl st)), x1, x2, x3, some (.tup (ixs c)), some (.con (sl (c.map (stp st)))), x6] m := by
    simp only [sset, ecomp, iseq, evS, ev0, srcSeq_tup, cfx, wipeM, List.set_cons_succ, List.set_cons_zero, pick_ok (x6 := x6) hc, if_pos z]
  unfold b_rows_of_f0
  rw [gseq_pl a1, gseq_nil]
  cases hq : bal (c.map (stp st)) with
  | false =>
    rw [hq] at hb
    refine ⟨t, ?_⟩
    simp [gIfQ, hb, gNilQ, hq]
  | true =>
    rw [hq] at hb
    obtain ⟨t2, hr⟩ := row_make (m := m ++ t) hv (show (c.map (stp st)).length ≤ 8 by rw [List.length_map]; omega) hq
    refine ⟨t ++ t2, ?_⟩
    simp [gIfQ, hb, gseq_nil, gYieldQ, hr, hq]
def lineV (cs : List (List Nat)) : List MV := cs.map fun c => .tup (ixs c)
theorem line_ok {st : List Step} {x1 x2 x3 : Option MV} (hs : ∀ q ∈ st, Valid q) : ∀ (cs : List (List Nat)) (m : MH) (x4 x5 x6 : Option MV), (∀ c ∈ cs, (∀ i ∈ c, i < st.length) ∧ c.length ≤ 7) →
    ∃ y4 y5 t, forLo (gNm 4) b_rows_of_f0 (lineV cs) [some (.con (sl st)), x1, x2, x3, x4, x5, x6] m = (((cs.map (·.map (stp st))).filter bal).map row, .nx [some (.con (sl st)), x1, x2, x3, y4, y5, x6] (m ++ t))
  | [], m, x4, x5, x6, _ => ⟨x4, x5, [], by simp [lineV, forLo]⟩
  | c :: cs, m, x4, x5, x6, h => by
    have hc := h c List.mem_cons_self
    obtain ⟨t, e⟩ := f0_ok (m := m) (x1 := x1) (x2 := x2) (x3 := x3) (x5 := x5) (x6 := x6) hs hc.1 hc.2
    obtain ⟨y4, y5, t2, e2⟩ := line_ok (x1 := x1) (x2 := x2) (x3 := x3) hs cs (m ++ t) (some (.tup (ixs c))) (some (.con (sl (c.map (stp st))))) x6 fun c hc => h c (List.mem_cons_of_mem _ hc)
    refine ⟨y4, y5, t ++ t2, ?_⟩
    show forLo (gNm 4) b_rows_of_f0 (.tup (ixs c) :: lineV cs) _ m = _
    rw [forLo_cons]
    simp only [gnm, List.set_cons_succ, List.set_cons_zero, e, gLoop, e2, List.append_assoc]
    rw [List.map_cons, ← List.map_append, ← List.filter_append]
    rfl
end
end K55
end

section
set_option Elab.async false
set_option linter.all false
set_option maxRecDepth 100000
set_option maxHeartbeats 2000000
namespace K55
open PySem Mi L2
section
variable {m : MH}
theorem rng_ixs {n : Nat} : rngL 0 (n : Int) = ixs (List.range n) := by
  unfold rngL ixs
  rw [show ((n : Int) - 0).toNat = n by omega]
  refine List.map_congr_left fun k _ => ?_
  rw [Int.zero_add]
theorem irange_ix {f : EM} {e : ME} {m1 : MH} {L : Nat} (h : f e m = .ok (.int L) m1) (hL : L < 1000) : iRange1 f e m = .ok (.fx (ixs (List.range L))) m1 :=
  (irange_nat h hL).trans (congrArg (fun z => Res.ok (Src.fx z) m1) rng_ixs)
def idata (c : List Nat) : List PyData := c.map fun i => .int (i : Nat)
theorem ixs_data {c : List Nat} : ixs c = mvDs (idata c) := by rw [mvDs_map, idata, List.map_map]; rfl
theorem lay_ixs : ∀ c : List Nat, PyData.canLayAll0 (idata c) = true
  | [] => rfl
  | i :: c => by rw [idata, List.map_cons, PyData.canLayAll0, ← idata, lay_ixs c]; rfl
theorem depth_ixs : ∀ c : List Nat, PyData.depthAll (idata c) = 0
  | [] => rfl
  | i :: c => by rw [idata, List.map_cons, PyData.depthAll, ← idata, depth_ixs c]; rfl
theorem any_ixs {i : Nat} : ∀ c : List Nat, ((idata c).any fun z => PyData.eqv z (.int (i : Nat))) = c.contains i
  | [] => rfl
  | j :: c => by
    rw [idata, List.map_cons, List.any_cons, ← idata, any_ixs c, eqv_int, List.contains_cons]
    congr 1
    by_cases h : i = j
    · subst h; simp
    · have h2 : ¬ (j : Int) = (i : Int) := by omega
      rw [beq_eq_false_iff_ne.mpr h, beq_eq_false_iff_ne.mpr h2]
theorem in_ixs {i : Nat} {c : List Nat} : inB (.int (i : Nat)) (.tup (ixs c)) m = some (c.contains i) := by
  rw [ixs_data]
  unfold inB
  rw [datS_tup (lay_ixs c) (by rw [depth_ixs]; omega), show datS m (.int (i : Nat)) = some (.int (i : Nat)) from datS_mvD (d := .int (i : Nat)) rfl (Nat.zero_le _)]
  simp only [any_ixs]
def nextL (n : Nat) (cs : List (List Nat)) : List (List Nat) := cs.flatMap fun c => ((List.range n).filter fun i => !c.contains i).map fun i => c ++ [i]
def linesL (n : Nat) : Nat → List (List Nat)
  | 0 => [[]]
  | t + 1 => nextL n (linesL n t)
theorem inner_comp {c : List Nat} {x0 x1 x2 x3 x5 : Option MV} (hk : c.length < 1000) : ∀ is : List Nat, collL (turnC (gNm 6) (tOf (eBin (lift2 (inO true)) (eVar 6) (eVar 4))) (eTup (aStar (eVar 4) (aCons (eVar 6) aNil))) [x0, x1, x2, x3, some (.tup (ixs c)), x5, none]) (ixs is) m = .ok (lineV ((is.filter fun i => !c.contains i).map fun i => c ++ [i])) m
  | [] => rfl
  | i :: is => by
    have ih := inner_comp (x0 := x0) (x1 := x1) (x2 := x2) (x3 := x3) (x5 := x5) hk is
    have z : c.length + 1 ≤ sizeLine := Nat.le_trans (show _ ≤ 2000 by omega) (by decide)
    have hl : (ixs (c ++ [i])).length = c.length + 1 := by simp [ixs]
    have e : ixs c ++ [MV.int (i : Nat)] = ixs (c ++ [i]) := by simp [ixs]
    show collL _ (.int (i : Nat) :: ixs is) m = _
    rw [collL_cons]
    by_cases hm : i ∈ c
    · simp [in_ixs, hm, ih]
    · simp [in_ixs, hm, ih, hl, z, e]
      simp [lineV]
theorem line_comp {st : List Step} {x1 x2 x3 x5 : Option MV} (h6 : st.length ≤ 6) : ∀ cs : List (List Nat), (∀ c ∈ cs, c.length < 1000) → collL (turnC2 (gNm 4) tYesM (iRange1 (eApp (lenO) (aCons (eVar 0) aNil))) [6] (turnC (gNm 6) (tOf (eBin (lift2 (inO true)) (eVar 6) (eVar 4))) (eTup (aStar (eVar 4) (aCons (eVar 6) aNil)))) [some (.con (sl st)), x1, x2, x3, none, x5, none]) (lineV cs) m = .ok (lineV (nextL st.length cs)) m
  | [], _ => rfl
  | c :: cs, h => by
    have ih := line_comp (x1 := x1) (x2 := x2) (x3 := x3) (x5 := x5) h6 cs fun c hc => h c (List.mem_cons_of_mem _ hc)
    have hi := inner_comp (m := m) (c := c) (x0 := some (.con (sl st))) (x1 := x1) (x2 := x2) (x3 := x3) (x5 := x5) (h c List.mem_cons_self) (List.range st.length)
    have hr : iRange1 (eApp (lenO) (aCons (eVar 0) aNil)) [some (.con (sl st)), x1, x2, x3, some (.tup (ixs c)), x5, none] m = .ok (.fx (ixs (List.range st.length))) m := by
      exact irange_ix (by simp [sl_length]) (by omega)
    show collL _ (.tup (ixs c) :: lineV cs) m = _
    rw [collL_cons]
    have ht : turnC2 (gNm 4) tYesM (iRange1 (eApp (lenO) (aCons (eVar 0) aNil))) [6] (turnC (gNm 6) (tOf (eBin (lift2 (inO true)) (eVar 6) (eVar 4))) (eTup (aStar (eVar 4) (aCons (eVar 6) aNil)))) [some (.con (sl st)), x1, x2, x3, none, x5, none] (.tup (ixs c)) m = .ok (lineV (((List.range st.length).filter fun i => !c.contains i).map fun i => c ++ [i])) m := by
      rw [turnc2_run (e1 := [some (.con (sl st)), x1, x2, x3, some (.tup (ixs c)), x5, none]) (m1 := m) rfl rfl hr]
      exact hi
    rw [ht]
    simp only [ih]
    rw [show nextL st.length (c :: cs) = (((List.range st.length).filter fun i => !c.contains i).map fun i => c ++ [i]) ++ nextL st.length cs by simp [nextL]]
    simp [lineV]
theorem nextL_len {n : Nat} : ∀ cs : List (List Nat), (nextL n cs).length ≤ cs.length * n
  | [] => by simp [nextL]
  | c :: cs => by
    have := nextL_len (n := n) cs
    have h2 : ((List.range n).filter fun i => !c.contains i).length ≤ n := Nat.le_trans (List.length_filter_le _ _) (by simp)
    rw [show nextL n (c :: cs) = (((List.range n).filter fun i => !c.contains i).map fun i => c ++ [i]) ++ nextL n cs by simp [nextL], List.length_append, List.length_map, List.length_cons, Nat.succ_mul]
    omega
theorem linesL_len {n : Nat} (h : n ≤ 6) : ∀ t, (linesL n t).length ≤ 6 ^ t
  | 0 => by simp [linesL]
  | t + 1 => by
    refine Nat.le_trans (nextL_len _) ?_
    rw [Nat.pow_succ]
    exact Nat.mul_le_mul (linesL_len h t) h
theorem linesL_mem {n : Nat} : ∀ (t : Nat), ∀ c ∈ linesL n t, (∀ i ∈ c, i < n) ∧ c.length = t
  | 0, r, hr => by
    rw [List.mem_singleton.mp hr]
    exact ⟨fun q hq => (by cases hq), rfl⟩
  | t + 1, r, hr => by
    obtain ⟨s, hs, hr⟩ := List.mem_flatMap.mp hr
    obtain ⟨p, hp, rfl⟩ := List.mem_map.mp hr
    obtain ⟨h1, h2⟩ := linesL_mem t s hs
    refine ⟨fun q hq => ?_, by simp [h2]⟩
    rcases List.mem_append.mp hq with z | z
    · exact h1 q z
    · rw [List.mem_singleton.mp z]; exact List.mem_range.mp (List.mem_filter.mp hp).1
/-- what a turn of the generator hands out -/
def outT (st : List Step) (t : Nat) : List (List Step) := ((linesL st.length t).map (·.map (stp st))).filter bal
def outFrom (st : List Step) (t : Nat) : Nat → List (List Step)
  | 0 => []
  | k + 1 => outT st t ++ outFrom st (t + 1) k
theorem pow7 {t : Nat} (h : t ≤ 7) : 6 ^ t ≤ 279936 := Nat.le_trans (Nat.pow_le_pow_right (by decide) h) (by decide)
theorem turns_ok {st : List Step} {x1 : Option MV} (hs : ∀ q ∈ st, Valid q) (h6 : st.length ≤ 6) : ∀ (xs : List MV) (t : Nat) (m : MH) (x3 x4 x5 x6 : Option MV), t + xs.length ≤ 7 →
    ∃ e m', forLo (gNm 3) b_rows_of_f1 xs [some (.con (sl st)), x1, some (.con (lineV (linesL st.length t))), x3, x4, x5, x6] m = ((outFrom st t xs.length).map row, .nx e m')
  | [], t, m, x3, x4, x5, x6, _ => ⟨_, _, rfl⟩
  | x :: xs, t, m, x3, x4, x5, x6, ht => by
    have hmem := linesL_mem (n := st.length) t
    rw [List.length_cons] at ht
    obtain ⟨y4, y5, t1, e1⟩ := line_ok (x1 := x1) (x2 := some (.con (lineV (linesL st.length t)))) (x3 := some x) hs (linesL st.length t) m x4 x5 x6 fun c hc => ⟨(hmem c hc).1, by rw [(hmem c hc).2]; omega⟩
    have hl := linesL_len (n := st.length) h6 (t + 1)
    have z : (lineV (nextL st.length (linesL st.length t))).length ≤ sizeLine := by
      refine Nat.le_trans (show _ ≤ 279936 from ?_) (by decide)
      rw [lineV, List.length_map]
      exact Nat.le_trans hl (pow7 (by omega))
    have a1 : sSet 2 (eComp (iSeqM (eVar 2)) [4, 6] (turnC2 (gNm 4) tYesM (iRange1 (eApp (lenO) (aCons (eVar 0) aNil))) [6] (turnC (gNm 6) (tOf (eBin (lift2 (inO true)) (eVar 6) (eVar 4))) (eTup (aStar (eVar 4) (aCons (eVar 6) aNil)))))) [some (.con (sl st)), x1, some (.con (lineV (linesL st.length t))), some x, y4, y5, x6] (m ++ t1) = .nx [some (.con (sl st)), x1, some (.con (lineV (linesL st.length (t + 1)))), some x, y4, y5, x6] (m ++ t1) := by
      have hc := line_comp (m := m ++ t1) (x1 := x1) (x2 := some (.con (lineV (linesL st.length t)))) (x3 := some x) (x5 := y5) h6 (linesL st.length t) fun c hc => by rw [(hmem c hc).2]; omega
      simp only [sset, ecomp, iseq, evS, ev0, srcSeq_con, cfx, wipeM, List.set_cons_succ, List.set_cons_zero, hc, if_pos z]
      rfl
    obtain ⟨e, m', e2⟩ := turns_ok (x1 := x1) hs h6 xs (t + 1) (m ++ t1) (some x) y4 y5 x6 (by omega)
    refine ⟨e, m', ?_⟩
    have b : b_rows_of_f1 [some (.con (sl st)), x1, some (.con (lineV (linesL st.length t))), some x, x4, x5, x6] m = ((outT st t).map row, .nx [some (.con (sl st)), x1, some (.con (lineV (linesL st.length (t + 1)))), some x, y4, y5, x6] (m ++ t1)) := by
      unfold b_rows_of_f1
      have f : gForQ (iSeqM (eVar 2)) (gNm 4) b_rows_of_f0 [some (.con (sl st)), x1, some (.con (lineV (linesL st.length t))), some x, x4, x5, x6] m = ((outT st t).map row, .nx [some (.con (sl st)), x1, some (.con (lineV (linesL st.length t))), some x, y4, y5, x6] (m ++ t1)) := by
        unfold gForQ
        simp only [iseq, evS, ev0, srcSeq_con]
        exact e1
      unfold gSeqQ
      rw [f]
      simp only [gThen, gPl, a1, gNilQ, List.append_nil]
    rw [forLo_cons]
    simp only [gnm, List.set_cons_succ, List.set_cons_zero, b, gLoop, e2]
    rw [List.length_cons, outFrom, List.map_append]
theorem outFrom_len {st : List Step} (h6 : st.length ≤ 6) : ∀ (k t : Nat), t + k ≤ 7 → (outFrom st t k).length ≤ 279936 * k
  | 0, t, _ => by simp [outFrom]
  | k + 1, t, hk => by
    have h1 := outFrom_len h6 k (t + 1) (by omega)
    have h2 : (outT st t).length ≤ 279936 := by
      refine Nat.le_trans (List.length_filter_le _ _) ?_
      rw [List.length_map]
      exact Nat.le_trans (linesL_len h6 t) (pow7 (by omega))
    rw [outFrom, List.length_append]
    omega
theorem rows_of_ok {st : List Step} {L : Nat} (h : Stock st) (hL : L ≤ 6) : ∃ e m', h_rows_of [.con (sl st), .int L] m = ((outFrom st 0 (L + 1)).map row, .nx e m') := by
  have z1 : (1 : Nat) ≤ sizeLine := by decide
  have z0 : (0 : Nat) ≤ sizeLine := by decide
  obtain ⟨e, m', he⟩ := turns_ok (x1 := some (.int L)) h.v h.most (ixs (List.range (L + 1))) 0 m none none none none (by simp [ixs]; omega)
  refine ⟨e, m', ?_⟩
  show b_rows_of [some (.con (sl st)), some (.int L), none, none, none, none, none] m = _
  unfold b_rows_of
  have a1 : sExpr (eCall (fun as => h_require_stock as []) (aCons (eVar 0) aNil)) [some (.con (sl st)), some (.int L), none, none, none, none, none] m = .nx [some (.con (sl st)), some (.int L), none, none, none, none, none] m := by simp [require_stock_ok h]
  have a2 : sExpr (eCall (fun as => h_require_number as []) (aCons (eVar 1) (aCons (eC (.int 6)) aNil))) [some (.con (sl st)), some (.int L), none, none, none, none, none] m = .nx [some (.con (sl st)), some (.int L), none, none, none, none, none] m := by
    have := require_number_ok (m := m) (v := .int L) (hi := 6) trivial (by simp [numV]; omega)
    simp [this]
  have a3 : sSet 2 (eLstC (aCons (eTup aNil) aNil)) [some (.con (sl st)), some (.int L), none, none, none, none, none] m = .nx [some (.con (sl st)), some (.int L), some (.con (lineV (linesL st.length 0))), none, none, none, none] m := by
    simp [z0, z1, lineV, linesL, ixs]
  rw [gseq_pl a1, gseq_pl a2, gseq_pl a3, gseq_nil]
  rw [gforq_run (irange_ix (L := L + 1) (m1 := m) (by simp) (by omega))]
  have hl : (ixs (List.range (L + 1))).length = L + 1 := by simp [ixs]
  rw [hl] at he
  exact he
theorem tell_row {ps : List Step} : tellM "Row" "own_steps" "steps" (row ps) = some (sl ps) := by
  have e1 : List.lookup ("steps" : Str) [(("own_steps" : Str), MV.tup (sl ps))] = none := by
    rw [List.lookup_cons, show (("steps" : Str) == ("own_steps" : Str)) = false from by decide]; rfl
  have e2 : List.lookup ("own_steps" : Str) [(("own_steps" : Str), MV.tup (sl ps))] = some (.tup (sl ps)) := by simp
  simp only [tellM, row, if_true, e1, e2]
theorem tell_rows : ∀ rs : List (List Step), tellL (tellM "Row" "own_steps" "steps") (rs.map row) = some (rl rs)
  | [] => rfl
  | r :: rs => by
    rw [List.map_cons]
    unfold tellL
    rw [tell_row, tell_rows rs]; rfl
theorem law_rows_ok {st : List Step} {L : Nat} (h : Stock st) (hL : L ≤ 6) : ∃ m', h__law_rows [.con (sl st), .int L] [] m = .ok (.con (rl (outFrom st 0 (L + 1)))) m' := by
  obtain ⟨e, m', he⟩ := rows_of_ok (m := m) h hL
  refine ⟨m', ?_⟩
  rw [r__law_rows]
  unfold b__law_rows
  have z : ((outFrom st 0 (L + 1)).map row).length ≤ sizeLine := by
    rw [List.length_map]
    exact Nat.le_trans (outFrom_len h.most (L + 1) 0 (by omega)) (Nat.le_trans (show _ ≤ 279936 * 7 by omega) (by decide))
  have a1 : eLcG h_rows_of (tellM "Row" "own_steps" "steps") ["InvalidStock", "InvalidNumber", "InvalidStep"] 2 (aCons (eVar 0) (aCons (eVar 1) aNil)) [some (.con (sl st)), some (.int L), none, none] m = .ok (.con (rl (outFrom st 0 (L + 1)))) m' := by
    unfold eLcG
    simp only [acons, evS, ev0, anil, List.length_cons, List.length_nil]
    rw [if_pos trivial, he]
    unfold lcEnd
    simp only [tell_rows, if_pos z]
  unfold sTry
  simp only [sret, a1, ofSO_rt]
end
end K55
end

section
set_option Elab.async false
set_option linter.all false
set_option maxRecDepth 100000
set_option maxHeartbeats 2000000
namespace K55
open PySem Mi L2
section
variable {m : MH}
theorem p64 : (2 : Int) ^ 64 = 18446744073709551616 := by decide +kernel
theorem p63 : (2 : Int) ^ 63 = 9223372036854775808 := by decide +kernel
theorem q64 : (2 : Nat) ^ 64 = 18446744073709551616 := by decide +kernel
theorem mulR {i j : Int} (h : -1000000 < j ∧ j < 1000000) : mulO (.int i) (.int j) m = some (.int (i * j), m) := by
  rw [mulO_int, if_pos]
  right
  rw [p64]
  omega
theorem mulL {i j : Int} (h : -1000000 < i ∧ i < 1000000) : mulO (.int i) (.int j) m = some (.int (i * j), m) := by
  rw [mulO_int, if_pos]
  left
  rw [p64]
  omega
theorem powR {i : Int} {k : Nat} (hk : k ≤ 100) (h : 0 ≤ i ∧ i < 1000000000000) : powO (.int i) (.int (k : Nat)) m = some (.int (i ^ k), m) := by
  rw [powO_int, if_pos]
  · simp
  · rw [q64]
    omega
theorem modR {i j : Int} (h : 0 < j) : modO (.int i) (.int j) m = some (.int (i % j), m) := by rw [modO_int, if_pos h]
theorem divR {i j : Int} (h : 0 < j ∧ j < 1073741824) : divO (.int i) (.int j) m = some (.int (i / j), m) := by rw [divO_int, if_pos h]
/-! ### the numbers drawn -/
def szs : List MV := List.replicate 60 (.int 420)
theorem szs_at {k : Nat} (h : k < 60) : atI szs (k : Nat) = some (.int 420) := by
  rw [Mi.atI_nat, szs, List.getElem?_replicate, if_pos h]
theorem num_turn {c s w l : Int} {k : Nat} {n : Nat} {x7 : Option MV} {m0 : MH} {xs : List MV} (hn : n = m0.length) (hk : k < 60) (hs : 0 ≤ s ∧ s ≤ 10000) (hw : 0 ≤ w) (hx : xs.length < 1000) :
    ∃ l' x7' v, b__law_numbers_f0 [some (.int c), some (.int s), some (.con szs), some (.int w), some (.int l), some (.ref n), some (.int (k : Nat)), x7] (m0 ++ [.lst xs]) = .nx [some (.int c), some (.int s), some (.con szs), some (.int w), some (.int l'), some (.ref n), some (.int (k : Nat)), x7'] (m0 ++ [.lst (xs ++ [.int v])]) := by
  subst hn
  have hz : xs.length < sizeLine := Nat.lt_of_lt_of_le hx (by decide)
  have hg : (m0 ++ [MO.lst xs])[m0.length]? = some (.lst xs) := new_get
  have ha : ∀ v, appendO [.ref m0.length, .int v] (m0 ++ [.lst xs]) = some (.non, m0 ++ [.lst (xs ++ [.int v])]) := fun v => by
    rw [append_set hg hz, new_set]
  have ht : ofT "list" (.ref m0.length) (m0 ++ [.lst xs]) = true := ofT_ref hg
  have hp18 : powO (.int 10) (.int 18) (m0 ++ [.lst xs]) = some (.int (10 ^ 18), m0 ++ [.lst xs]) := powR (k := 18) (by omega) (by omega)
  have s420 : (0 : Int) < 420 := by decide
  have hat : ∀ m', ixO (.con szs) (.int (k : Nat)) m' = some (.int 420, m') := fun m' => by rw [ixO_con, szs_at hk]; rfl
  unfold b__law_numbers_f0
  generalize hM : m0 ++ [MO.lst xs] = M at *
  by_cases hc : (10 : Int) ^ 18 ≤ w ∧ 0 < l
  · refine ⟨l / 420, x7, l % 420, ?_⟩
    have t1 : (tAndM (tOf (eBin (lift2 geO) (eVar 3) (eBin (lift2 powO) (eC (.int 10)) (eC (.int 18))))) (tOf (eBin (lift2 gtO) (eVar 4) (eC (.int 0))))) [some (.int c), some (.int s), some (.con szs), some (.int w), some (.int l), some (.ref m0.length), some (.int (k : Nat)), x7] M = .ok true M := by
      simp only [tand, tof, ebin, evS, ev0, ec, lift2_run, hp18, ordO_int, decide_eq_true hc.1, decide_eq_true hc.2]
    have a1 : sExpr (eMt "list" appendO (eVar 5) (aCons (eBin (lift2 modO) (eVar 4) (eBin (lift2 ixO) (eVar 2) (eVar 6))) aNil)) [some (.int c), some (.int s), some (.con szs), some (.int w), some (.int l), some (.ref m0.length), some (.int (k : Nat)), x7] M = .nx [some (.int c), some (.int s), some (.con szs), some (.int w), some (.int l), some (.ref m0.length), some (.int (k : Nat)), x7] (m0 ++ [.lst (xs ++ [.int (l % 420)])]) := by
      simp only [sexpr, emt, evS, ev0, if_pos ht, acons, anil, ebin, lift2_run, hat, modR s420, ha]
    rw [sif, t1]
    simp only
    rw [seq_nx a1]
    simp only [sset, ebin, evS, ev0, lift2_run, hat, divR (show (0 : Int) < 420 ∧ (420 : Int) < 1073741824 by decide), List.set_cons_succ, List.set_cons_zero]
  · have t1 : (tAndM (tOf (eBin (lift2 geO) (eVar 3) (eBin (lift2 powO) (eC (.int 10)) (eC (.int 18))))) (tOf (eBin (lift2 gtO) (eVar 4) (eC (.int 0))))) [some (.int c), some (.int s), some (.con szs), some (.int w), some (.int l), some (.ref m0.length), some (.int (k : Nat)), x7] M = .ok false M := by
      by_cases h1 : (10 : Int) ^ 18 ≤ w
      · have h2 : ¬ 0 < l := fun z => hc ⟨h1, z⟩
        simp only [tand, tof, ebin, evS, ev0, ec, lift2_run, hp18, ordO_int, decide_eq_true h1, decide_eq_false h2]
      · simp only [tand, tof, ebin, evS, ev0, ec, lift2_run, hp18, ordO_int, decide_eq_false h1]
    have w1 : 0 ≤ w % 2147483629 ∧ w % 2147483629 < 2147483629 := ⟨Int.emod_nonneg _ (by decide), Int.emod_lt_of_pos _ (by decide)⟩
    obtain ⟨o1, ho1⟩ : ∃ o, o = (w % 2147483629 + 7919 * s + 1) ^ 3 % 2147483647 := ⟨_, rfl⟩
    have b1 : 0 ≤ o1 ∧ o1 < 2147483647 := by rw [ho1]; exact ⟨Int.emod_nonneg _ (by decide), Int.emod_lt_of_pos _ (by decide)⟩
    obtain ⟨o2, ho2⟩ : ∃ o, o = (o1 + 104729 * ((k : Int) + 1)) * ((k : Int) + 3) % 2147483629 := ⟨_, rfl⟩
    have b2 : 0 ≤ o2 ∧ o2 < 2147483629 := by rw [ho2]; exact ⟨Int.emod_nonneg _ (by decide), Int.emod_lt_of_pos _ (by decide)⟩
    obtain ⟨o3, ho3⟩ : ∃ o, o = o2 ^ 5 % 2147483647 * 48271 % 2147483629 := ⟨_, rfl⟩
    refine ⟨l, some (.int o3), o3 / 16 % 420, ?_⟩
    have p3 : powO (.int (w % 2147483629 + 7919 * s + 1)) (.int 3) M = some (.int ((w % 2147483629 + 7919 * s + 1) ^ 3), M) := powR (k := 3) (by omega) (by omega)
    have p5 : powO (.int o2) (.int 5) M = some (.int (o2 ^ 5), M) := powR (k := 5) (by omega) (by omega)
    have a1 : ∀ x7, sSet 7 (eBin (lift2 modO) (eBin (lift2 powO) (eBin (lift2 addO) (eBin (lift2 addO) (eBin (lift2 modO) (eVar 3) (eC (.int 2147483629))) (eBin (lift2 mulO) (eC (.int 7919)) (eVar 1))) (eC (.int 1))) (eC (.int 3))) (eC (.int 2147483647))) [some (.int c), some (.int s), some (.con szs), some (.int w), some (.int l), some (.ref m0.length), some (.int (k : Nat)), x7] M = .nx [some (.int c), some (.int s), some (.con szs), some (.int w), some (.int l), some (.ref m0.length), some (.int (k : Nat)), some (.int o1)] M := fun x7 => by
      simp only [sset, ebin, evS, ev0, ec, lift2_run, modR (show (0 : Int) < 2147483629 by decide), modR (show (0 : Int) < 2147483647 by decide), mulL (show -1000000 < (7919 : Int) ∧ (7919 : Int) < 1000000 by decide), addO_int, p3, List.set_cons_succ, List.set_cons_zero, ← ho1]
    have a2 : ∀ x7, x7 = some (MV.int o1) → sSet 7 (eBin (lift2 modO) (eBin (lift2 mulO) (eBin (lift2 addO) (eVar 7) (eBin (lift2 mulO) (eC (.int 104729)) (eBin (lift2 addO) (eVar 6) (eC (.int 1))))) (eBin (lift2 addO) (eVar 6) (eC (.int 3)))) (eC (.int 2147483629))) [some (.int c), some (.int s), some (.con szs), some (.int w), some (.int l), some (.ref m0.length), some (.int (k : Nat)), x7] M = .nx [some (.int c), some (.int s), some (.con szs), some (.int w), some (.int l), some (.ref m0.length), some (.int (k : Nat)), some (.int o2)] M := fun x7 e => by
      subst e
      simp only [sset, ebin, evS, ev0, ec, lift2_run, modR (show (0 : Int) < 2147483629 by decide), mulL (show -1000000 < (104729 : Int) ∧ (104729 : Int) < 1000000 by decide), mulR (show -1000000 < ((k : Int) + 3) ∧ ((k : Int) + 3) < 1000000 by omega), addO_int, List.set_cons_succ, List.set_cons_zero, ← ho2]
    have a3 : ∀ x7, x7 = some (MV.int o2) → sSet 7 (eBin (lift2 modO) (eBin (lift2 mulO) (eBin (lift2 modO) (eBin (lift2 powO) (eVar 7) (eC (.int 5))) (eC (.int 2147483647))) (eC (.int 48271))) (eC (.int 2147483629))) [some (.int c), some (.int s), some (.con szs), some (.int w), some (.int l), some (.ref m0.length), some (.int (k : Nat)), x7] M = .nx [some (.int c), some (.int s), some (.con szs), some (.int w), some (.int l), some (.ref m0.length), some (.int (k : Nat)), some (.int o3)] M := fun x7 e => by
      subst e
      simp only [sset, ebin, evS, ev0, ec, lift2_run, modR (show (0 : Int) < 2147483629 by decide), modR (show (0 : Int) < 2147483647 by decide), mulR (show -1000000 < (48271 : Int) ∧ (48271 : Int) < 1000000 by decide), p5, List.set_cons_succ, List.set_cons_zero, ← ho3]
    have a4 : sExpr (eMt "list" appendO (eVar 5) (aCons (eBin (lift2 modO) (eBin (lift2 divO) (eVar 7) (eC (.int 16))) (eBin (lift2 ixO) (eVar 2) (eVar 6))) aNil)) [some (.int c), some (.int s), some (.con szs), some (.int w), some (.int l), some (.ref m0.length), some (.int (k : Nat)), some (.int o3)] M = .nx [some (.int c), some (.int s), some (.con szs), some (.int w), some (.int l), some (.ref m0.length), some (.int (k : Nat)), some (.int o3)] (m0 ++ [.lst (xs ++ [.int (o3 / 16 % 420)])]) := by
      simp only [sexpr, emt, evS, ev0, ec, if_pos ht, acons, anil, ebin, lift2_run, hat, modR s420, divR (show (0 : Int) < 16 ∧ (16 : Int) < 1073741824 by decide), ha]
    rw [sif, t1]
    simp only
    rw [seq_nx (a1 _), seq_nx (a2 _ rfl), seq_nx (a3 _ rfl)]
    exact a4
theorem num_loop {c s w : Int} {m0 : MH} (hs : 0 ≤ s ∧ s ≤ 10000) (hw : 0 ≤ w) : ∀ (ks : List Nat) (l : Int) (x6 x7 : Option MV) (ns : List Int), (∀ k ∈ ks, k < 60) → ns.length + ks.length < 1000 →
    ∃ (l' : Int) (y6 y7 : Option MV) (ns' : List Int), forL (gNm 6) b__law_numbers_f0 (ixs ks) [some (.int c), some (.int s), some (.con szs), some (.int w), some (.int l), some (.ref m0.length), x6, x7] (m0 ++ [.lst (ns.map .int)]) = .nx [some (.int c), some (.int s), some (.con szs), some (.int w), some (.int l'), some (.ref m0.length), y6, y7] (m0 ++ [.lst (ns'.map .int)])
  | [], l, x6, x7, ns, _, _ => ⟨l, x6, x7, ns, rfl⟩
  | k :: ks, l, x6, x7, ns, hk, hl => by
    obtain ⟨l1, z7, v, e1⟩ := num_turn (c := c) (s := s) (w := w) (l := l) (k := k) (x7 := x7) (m0 := m0) (xs := ns.map .int) rfl (hk k List.mem_cons_self) hs hw (by rw [List.length_map]; simp at hl; omega)
    obtain ⟨l', y6, y7, ns', e2⟩ := num_loop hs hw ks l1 (some (.int (k : Nat))) z7 (ns ++ [v]) (fun k hk' => hk k (List.mem_cons_of_mem _ hk')) (by simp at hl ⊢; omega)
    refine ⟨l', y6, y7, ns', ?_⟩
    show forL (gNm 6) b__law_numbers_f0 (.int (k : Nat) :: ixs ks) _ _ = _
    rw [forL_cons]
    simp only [gnm, List.set_cons_succ, List.set_cons_zero, e1]
    rw [← e2]
    congr 1
    simp
theorem numbers_ok {c s : Int} (hs : 0 ≤ s ∧ s ≤ 10000) : ∃ ns : List Int, h__law_numbers [.int c, .int s, .con szs] [] m = .ok (.con (ns.map .int)) (m ++ [.ded]) := by
  obtain ⟨w, hw⟩ : ∃ w, w = (if (-1 - c) > c then (-1 - c) else c) := ⟨_, rfl⟩
  have hw0 : 0 ≤ w := by rw [hw]; split <;> omega
  obtain ⟨l', y6, y7, ns, e⟩ := num_loop (c := c) (s := s) (w := w) (m0 := m) hs hw0 (List.range 60) w none none [] (fun k hk => List.mem_range.mp hk) (by simp)
  refine ⟨ns, ?_⟩
  rw [r__law_numbers]
  unfold b__law_numbers
  have z0 : (0 : Nat) ≤ sizeLine := by decide
  have a1 : sSet 3 (eApp (max2O) (aCons (eVar 0) (aCons (eBin (lift2 subO) (eNeg (eC (.int 1))) (eVar 0)) aNil))) [some (.int c), some (.int s), some (.con szs), none, none, none, none, none] m = .nx [some (.int c), some (.int s), some (.con szs), some (.int w), none, none, none, none] m := by
    simp only [sset, eapp, acons, anil, evS, ev0, ebin, eneg, ec, lift2_run, subO_int, max2O_int, List.set_cons_succ, List.set_cons_zero, hw]
  have a2 : sSet 4 (eVar 3) [some (.int c), some (.int s), some (.con szs), some (.int w), none, none, none, none] m = .nx [some (.int c), some (.int s), some (.con szs), some (.int w), some (.int w), none, none, none] m := by simp
  have a3 : sSet 5 (eLst aNil) [some (.int c), some (.int s), some (.con szs), some (.int w), some (.int w), none, none, none] m = .nx [some (.int c), some (.int s), some (.con szs), some (.int w), some (.int w), some (.ref m.length), none, none] (m ++ [.lst []]) := by simp [z0]
  have hr : iRange1 (eApp (lenO) (aCons (eVar 2) aNil)) [some (.int c), some (.int s), some (.con szs), some (.int w), some (.int w), some (.ref m.length), none, none] (m ++ [.lst []]) = .ok (.fx (ixs (List.range 60))) (m ++ [.lst []]) := irange_ix (by simp [szs]) (by omega)
  rw [seq_nx a1, seq_nx a2, seq_nx a3, seq_nx ((sfor_run hr).trans e)]
  simp
theorem pool_ok {c s : Int} (hs : 0 ≤ s ∧ s ≤ 10000) : ∃ ns : List Int, h__law_pool [.int c, .int s, .int 60] [] m = .ok (.ref (m.length + 1)) (m ++ [.ded, .lst [.con (ns.map .int), .int 0]]) := by
  obtain ⟨ns, e⟩ := numbers_ok (m := m) (c := c) hs
  refine ⟨ns, ?_⟩
  rw [r__law_pool]
  unfold b__law_pool
  have z1 : (1 : Nat) ≤ sizeLine := by decide
  have z2 : (2 : Nat) ≤ sizeLine := by decide
  have hm : mulO (.con [.int 420]) (.int 60) m = some (.con szs, m) := by
    rw [mulO_con, if_pos]
    · rfl
    · rw [p63]
      decide
  simp [z1, z2, hm, e]
/-! ### draws: the pool stands at n -/
def PoolAt (n : Nat) (ns : List Int) (m : MH) : Prop := ∃ k : Nat, m[n]? = some (.lst [.con (ns.map .int), .int (k : Nat)])
theorem draw_ok {n : Nat} {ns : List Int} {q : Int} (hp : PoolAt n ns m) (hq : 0 < q) : ∃ (d : Int) (m' : MH), h__law_draw [.ref n, .int q] [] m = .ok (.int d) m' ∧ PoolAt n ns m' ∧ 0 ≤ d ∧ d < q := by
  obtain ⟨k, hk⟩ := hp
  have hl := get_lt hk
  have i1 : ∀ m' a b, m'[n]? = some (.lst [a, b]) → ixO (.ref n) (.int 1) m' = some (b, m') := fun m' a b h => by
    simp [ixO, h]
  have i0 : ∀ m' a b, m'[n]? = some (.lst [a, b]) → ixO (.ref n) (.int 0) m' = some (a, m') := fun m' a b h => by
    simp [ixO, h]
  have hk2 : (m.set n (.lst [.con (ns.map .int), .int ((k + 1 : Nat) : Int)]))[n]? = some (.lst [.con (ns.map .int), .int ((k + 1 : Nat) : Int)]) := List.getElem?_set_self hl
  obtain ⟨d, hd⟩ : ∃ d : Int, d = if k < ns.length then ns.getD k 0 % q else 0 := ⟨_, rfl⟩
  refine ⟨d, m.set n (.lst [.con (ns.map .int), .int ((k + 1 : Nat) : Int)]), ?_, ⟨k + 1, hk2⟩, ?_⟩
  · rw [r__law_draw]
    unfold b__law_draw
    have a1 : sSet 2 (eBin (lift2 ixO) (eVar 0) (eC (.int 1))) [some (.ref n), some (.int q), none] m = .nx [some (.ref n), some (.int q), some (.int (k : Nat))] m := by
      simp only [sset, ebin, ev0, ec, lift2_run, i1 _ _ _ hk, List.set_cons_succ, List.set_cons_zero]
    have hset : setO (.ref n) (.int 1) (.int ((k : Int) + 1)) m = some (m.set n (.lst [.con (ns.map .int), .int ((k + 1 : Nat) : Int)])) := by
      simp only [setO, hk]
      have : L2.ixN ([MV.con (ns.map .int), .int (k : Nat)] : List MV).length 1 = some 1 := by
        show L2.ixN 2 1 = some 1
        decide
      rw [this]
      simp
    have a2 : sSetIx (eBin (lift2 addO) (eVar 2) (eC (.int 1))) (eVar 0) (eC (.int 1)) [some (.ref n), some (.int q), some (.int (k : Nat))] m = .nx [some (.ref n), some (.int q), some (.int (k : Nat))] (m.set n (.lst [.con (ns.map .int), .int ((k + 1 : Nat) : Int)])) := by
      simp only [ssetix, ebin, evS, ev0, ec, lift2_run, addO_int, hset]
    rw [seq_nx a1, seq_nx a2]
    generalize m.set n (.lst [.con (ns.map .int), .int ((k + 1 : Nat) : Int)]) = m1 at hk2
    by_cases h1 : k < ns.length
    · have hlt : ((k : Int) < ((ns.map MV.int).length : Nat)) := by rw [List.length_map]; omega
      have hat : atI (ns.map MV.int) (k : Nat) = some (.int (ns.getD k 0)) := by
        rw [Mi.atI_nat, List.getElem?_map, List.getElem?_eq_getElem h1, List.getD_eq_getElem?_getD, List.getElem?_eq_getElem h1]; rfl
      rw [if_pos h1] at hd
      simp only [sret, eif, tof, ebin, evS, ev0, ec, lift2_run, eapp, acons, anil, i0 _ _ _ hk2, lenO_con, ordO_int, decide_eq_true hlt, ixO_con, hat, Option.map_some, intO_int, modR hq, ← hd, ofSO_rt]
    · have hlt : ¬ ((k : Int) < ((ns.map MV.int).length : Nat)) := by rw [List.length_map]; omega
      rw [if_neg h1] at hd
      simp only [sret, eif, tof, ebin, evS, ev0, ec, lift2_run, eapp, acons, anil, i0 _ _ _ hk2, lenO_con, ordO_int, decide_eq_false hlt, ofSO_rt, hd]
  · rw [hd]
    split
    · exact ⟨Int.emod_nonneg _ (by omega), Int.emod_lt_of_pos _ hq⟩
    · omega
theorem pick_con {n : Nat} {ns : List Int} {xs : List MV} (hp : PoolAt n ns m) (hx : 0 < xs.length) : ∃ x m', h__law_pick [.ref n, .con xs] [] m = .ok x m' ∧ PoolAt n ns m' ∧ x ∈ xs := by
  obtain ⟨d, m', e, h1, h2, h3⟩ := draw_ok (q := (xs.length : Nat)) hp (by omega)
  obtain ⟨j, rfl⟩ : ∃ j : Nat, d = (j : Int) := ⟨d.toNat, by omega⟩
  have hj : j < xs.length := by omega
  refine ⟨xs[j], m', ?_, h1, List.getElem_mem hj⟩
  rw [r__law_pick]
  unfold b__law_pick
  have hat : atI xs (j : Nat) = some xs[j] := by rw [Mi.atI_nat, List.getElem?_eq_getElem hj]
  simp only [sret, ebin, evS, ev0, ecall, acons, anil, eapp, lenO_con, e, lift2_run, ixO_con, hat, Option.map_some, ofSO_rt]
end
end K55
end

section
set_option Elab.async false
set_option linter.all false
set_option maxRecDepth 100000
set_option maxHeartbeats 2000000
namespace K55
open PySem Mi L2
section
variable {m : MH}
def wds : List Str := ["cancel", "bar", "halt", "settle", "close", "drain", "set", "clear", "take", "give", "take", "give"]
def nm3 : List Str := ["a", "b", "ab"]
structure Plain (p : Step) : Prop where
  w : p.1 ∈ wds
  n : p.2 ∈ nm3
theorem wds_sub : ∀ w ∈ wds, w ∈ words := by
  have : (wds.all fun w => words.contains w) = true := by decide +kernel
  exact fun w h => by simpa using List.all_eq_true.mp this w h
theorem nm3_sub : ∀ w ∈ nm3, w ∈ nms ∧ w ≠ "l" := by
  have : (nm3.all fun w => nms.contains w && decide (w ≠ "l")) = true := by decide +kernel
  exact fun w h => by simpa using List.all_eq_true.mp this w h
theorem Plain.valid {p : Step} (h : Plain p) : Valid p := ⟨wds_sub _ h.w, (nm3_sub _ h.n).1⟩
theorem mul01 {x : MV} {b : Bool} : mulO (.con [x]) (.int (if b then 1 else 0)) m = some (.con (if b then [x] else []), m) := by
  cases b with
  | true =>
    show mulO (.con [x]) (.int 1) m = _
    rw [mulO_con, if_pos]
    · rfl
    · rw [p63]
      exact ⟨by decide, by decide, by show 1 * 1 ≤ sizeLine; decide⟩
  | false =>
    show mulO (.con [x]) (.int 0) m = _
    rw [mulO_con, if_pos]
    · rfl
    · rw [p63]
      exact ⟨by decide, by decide, by show 1 * 0 ≤ sizeLine; decide⟩
theorem draw_turn {n : Nat} {ns : List Int} {ps : List Step} {x3 x4 : Option MV} (hp : PoolAt n ns m) (hs : ∀ q ∈ ps, Plain q) (hl : ps.length < 100) :
    ∃ p m', b__law_drawn_stock_f0 [some (.ref n), some (.con (wds.map .str)), some (.con (sl ps)), x3, x4] m = .nx [some (.ref n), some (.con (wds.map .str)), some (.con (sl (if ps.contains p then ps else ps ++ [p]))), x3, some (sm p)] m' ∧ PoolAt n ns m' ∧ Plain p := by
  obtain ⟨x, m1, e1, h1, hx⟩ := pick_con (xs := wds.map .str) hp (by decide)
  obtain ⟨y, m2, e2, h2, hy⟩ := pick_con (xs := nm3.map .str) h1 (by decide)
  obtain ⟨w, hw, rfl⟩ := List.mem_map.mp hx
  obtain ⟨l, hn, rfl⟩ := List.mem_map.mp hy
  have hpl : Plain (w, l) := ⟨hw, hn⟩
  refine ⟨(w, l), m2, ?_, h2, hpl⟩
  have z1 : (1 : Nat) ≤ sizeLine := by decide
  have z2 : (2 : Nat) ≤ sizeLine := by decide
  have z3 : (3 : Nat) ≤ sizeLine := by decide
  have e2' : h__law_pick [.ref n, .con [.str "a", .str "b", .str "ab"]] [] m1 = .ok (.str l) m2 := e2
  have a1 : sSet 4 (eTup (aCons (eCall (fun as => h__law_pick as []) (aCons (eVar 0) (aCons (eVar 1) aNil))) (aCons (eCall (fun as => h__law_pick as []) (aCons (eVar 0) (aCons (eLstC (aCons (eC (.str "a")) (aCons (eC (.str "b")) (aCons (eC (.str "ab")) aNil)))) aNil))) aNil))) [some (.ref n), some (.con (wds.map .str)), some (.con (sl ps)), x3, x4] m = .nx [some (.ref n), some (.con (wds.map .str)), some (.con (sl ps)), x3, some (.tup [.str w, .str l])] m2 := by
    simp [e1, e2', z2, z3]
  unfold b__law_drawn_stock_f0
  rw [seq_nx a1]
  have hi := in_con (m := m2) (p := (w, l)) (ps := ps) hpl.valid.good.ok fun q hq => (hs q hq).valid.good.ok
  have hmul := mul01 (m := m2) (x := .tup [.str w, .str l]) (b := !ps.contains (w, l))
  have hz : ps.length + 1 ≤ sizeLine := Nat.le_trans (show _ ≤ 2000 by omega) (by decide)
  have hz0 : ps.length ≤ sizeLine := Nat.le_trans (show _ ≤ 2000 by omega) (by decide)
  have es : sl ps ++ [MV.tup [.str w, .str l]] = sl (ps ++ [(w, l)]) := by simp [sl, sm]
  simp only at hi
  cases hc : ps.contains (w, l) with
  | true =>
    rw [hc] at hi hmul
    simp only [Bool.not_true, Bool.false_eq_true, if_false] at hmul
    simp only [sset, ebin, evS, ev0, elstc, acons, anil, List.length_cons, List.length_nil, if_pos z1, eapp, lift2_run, inO_eq, hi, Option.map_some, if_true, Bool.not_true, intO_bl, Bool.false_eq_true, if_false, hmul, addO_con, sl_length, Nat.add_zero, if_pos hz0, List.append_nil, List.set_cons_succ, List.set_cons_zero]
    rfl
  | false =>
    rw [hc] at hi hmul
    simp only [Bool.not_false, if_true] at hmul
    simp only [sset, ebin, evS, ev0, elstc, acons, anil, List.length_cons, List.length_nil, if_pos z1, eapp, lift2_run, inO_eq, hi, Option.map_some, if_true, Bool.not_false, intO_bl, hmul, addO_con, sl_length, Nat.zero_add, if_pos hz, es, List.set_cons_succ, List.set_cons_zero, Bool.false_eq_true, if_false]
    rfl
theorem draw_loop {n : Nat} {ns : List Int} : ∀ (xs : List MV) (ps : List Step) (m : MH) (x3 x4 : Option MV), PoolAt n ns m → (∀ q ∈ ps, Plain q) → ps.Nodup → ps.length + xs.length < 100 →
    ∃ qs m' y3 y4, forL (gNm 3) b__law_drawn_stock_f0 xs [some (.ref n), some (.con (wds.map .str)), some (.con (sl ps)), x3, x4] m = .nx [some (.ref n), some (.con (wds.map .str)), some (.con (sl qs)), y3, y4] m' ∧ PoolAt n ns m' ∧ (∀ q ∈ qs, Plain q) ∧ qs.Nodup ∧ qs.length ≤ ps.length + xs.length ∧ (0 < ps.length + xs.length → 0 < qs.length)
  | [], ps, m, x3, x4, hp, hs, hd, hl => ⟨ps, m, x3, x4, rfl, hp, hs, hd, Nat.le_refl _, fun h => h⟩
  | x :: xs, ps, m, x3, x4, hp, hs, hd, hl => by
    obtain ⟨p, m1, e1, hp1, hpl⟩ := draw_turn (x3 := some x) (x4 := x4) hp hs (by simp at hl; omega)
    have hs2 : ∀ q ∈ (if ps.contains p then ps else ps ++ [p]), Plain q := fun q hq => by
      split at hq
      · exact hs q hq
      · rcases List.mem_append.mp hq with z | z
        · exact hs q z
        · rw [List.mem_singleton.mp z]; exact hpl
    have hd2 : (if ps.contains p then ps else ps ++ [p]).Nodup := by
      split
      · exact hd
      · rename_i h
        refine List.nodup_append.mpr ⟨hd, by simp, fun a ha b hb => ?_⟩
        rw [List.mem_singleton.mp hb]
        rintro rfl
        exact h (by simpa using ha)
    have hl2 : (if ps.contains p then ps else ps ++ [p]).length ≤ ps.length + 1 ∧ 0 < (if ps.contains p then ps else ps ++ [p]).length := by
      split
      · rename_i h
        have : p ∈ ps := by simpa using h
        exact ⟨by omega, List.length_pos_of_mem this⟩
      · simp
    obtain ⟨qs, m', y3, y4, e2, h1, h2, h3, h4, h5⟩ := draw_loop xs _ m1 (some x) (some (sm p)) hp1 hs2 hd2 (by simp at hl; omega)
    refine ⟨qs, m', y3, y4, ?_, h1, h2, h3, by rw [List.length_cons]; omega, fun _ => h5 (by omega)⟩
    rw [forL_cons]
    simp only [gnm, List.set_cons_succ, List.set_cons_zero, e1]
    exact e2
theorem ok_l : okS "l" := by unfold okS; decide +kernel
theorem drawn_ok {n : Nat} {ns : List Int} (hp : PoolAt n ns m) : ∃ st m', h__law_drawn_stock [.ref n] [] m = .ok (.con (sl st)) m' ∧ PoolAt n ns m' ∧ Stock st := by
  obtain ⟨d, m1, e1, hp1, d0, d6⟩ := draw_ok (q := 6) hp (by decide)
  obtain ⟨j, rfl⟩ : ∃ j : Nat, d = (j : Int) := ⟨d.toNat, by omega⟩
  obtain ⟨qs, m2, y3, y4, e2, hp2, hv, hd, hl, hpos⟩ := draw_loop (ixs (List.range (j + 1))) [] m1 none none hp1 (fun q hq => (by cases hq)) List.nodup_nil (by simp [ixs]; omega)
  have hlr : (ixs (List.range (j + 1))).length = j + 1 := by simp [ixs]
  rw [hlr] at hl hpos
  simp only [List.length_nil, Nat.zero_add] at hl hpos
  obtain ⟨d2, m3, e3, hp3, f0, f3⟩ := draw_ok (q := 3) hp2 (by decide)
  rw [r__law_drawn_stock]
  unfold b__law_drawn_stock
  have z0 : (0 : Nat) ≤ sizeLine := by decide
  have z12 : (12 : Nat) ≤ sizeLine := by decide
  have z1 : (1 : Nat) ≤ sizeLine := by decide
  have z2 : (2 : Nat) ≤ sizeLine := by decide
  have a1 : sSet 1 (eLstC (aCons (eC (.str "cancel")) (aCons (eC (.str "bar")) (aCons (eC (.str "halt")) (aCons (eC (.str "settle")) (aCons (eC (.str "close")) (aCons (eC (.str "drain")) (aCons (eC (.str "set")) (aCons (eC (.str "clear")) (aCons (eC (.str "take")) (aCons (eC (.str "give")) (aCons (eC (.str "take")) (aCons (eC (.str "give")) aNil))))))))))))) [some (.ref n), none, none, none, none] m = .nx [some (.ref n), some (.con (wds.map .str)), none, none, none] m := by
    simp [z12]
    rfl
  have a2 : sSet 2 (eLstC aNil) [some (.ref n), some (.con (wds.map .str)), none, none, none] m = .nx [some (.ref n), some (.con (wds.map .str)), some (.con (sl [])), none, none] m := by
    simp [z0, sl]
  have hr : iRange1 (eBin (lift2 addO) (eC (.int 1)) (eCall (fun as => h__law_draw as []) (aCons (eVar 0) (aCons (eC (.int 6)) aNil)))) [some (.ref n), some (.con (wds.map .str)), some (.con (sl [])), none, none] m = .ok (.fx (ixs (List.range (j + 1)))) m1 := irange_ix (by simp [e1, Int.add_comm]) (by omega)
  rw [seq_nx a1, seq_nx a2, seq_nx ((sfor_run hr).trans e2)]
  have hbase : Stock qs := ⟨fun q hq => (hv q hq).valid, hd, hpos (by omega), by omega⟩
  by_cases hc : d2 = 0 ∧ qs.length < 5
  · obtain ⟨rfl, h5⟩ := hc
    have hnt : (("take" : Str), ("l" : Str)) ∉ qs := fun z => (nm3_sub _ (hv _ z).n).2 rfl
    have hng : (("give" : Str), ("l" : Str)) ∉ qs := fun z => (nm3_sub _ (hv _ z).n).2 rfl
    have hi := in_con (m := m3) (p := (("take" : Str), ("l" : Str))) (ps := qs) ⟨ok_take, ok_l⟩ fun q hq => (hv q hq).valid.good.ok
    have hcf : qs.contains (("take" : Str), ("l" : Str)) = false := by simpa using hnt
    rw [hcf] at hi
    refine ⟨(("give" : Str), ("l" : Str)) :: qs ++ [(("take" : Str), ("l" : Str))], m3, ?_, hp3, ?_⟩
    · have t5 : ((qs.length : Nat) : Int) < 5 := by omega
      have zl : 1 + qs.length ≤ sizeLine := Nat.le_trans (show _ ≤ 2000 by omega) (by decide)
      have zl2 : 1 + qs.length + 1 ≤ sizeLine := Nat.le_trans (show _ ≤ 2000 by omega) (by decide)
      have a3 : sIf (tAndM (tOf (eBin (lift2 (Mi.eqO false)) (eCall (fun as => h__law_draw as []) (aCons (eVar 0) (aCons (eC (.int 3)) aNil))) (eC (.int 0)))) (tAndM (tOf (eBin (lift2 ltO) (eApp (lenO) (aCons (eVar 2) aNil)) (eC (.int 5)))) (tOf (eBin (lift2 (inO true)) (eTup (aCons (eC (.str "take")) (aCons (eC (.str "l")) aNil))) (eVar 2))))) (sSet 2 (eBin (lift2 addO) (eBin (lift2 addO) (eLstC (aCons (eTup (aCons (eC (.str "give")) (aCons (eC (.str "l")) aNil))) aNil)) (eVar 2)) (eLstC (aCons (eTup (aCons (eC (.str "take")) (aCons (eC (.str "l")) aNil))) aNil)))) sNil [some (.ref n), some (.con (wds.map .str)), some (.con (sl qs)), y3, y4] m2 = .nx [some (.ref n), some (.con (wds.map .str)), some (.con (sl ((("give" : Str), ("l" : Str)) :: qs ++ [(("take" : Str), ("l" : Str))]))), y3, y4] m3 := by
        have q0 : Mi.eqO false (.int 0) (.int 0) m3 = some (.bl true, m3) := eq_int
        simp only at hi
        have es : MV.tup [.str "give", .str "l"] :: (sl qs ++ [MV.tup [.str "take", .str "l"]]) = sl ((("give" : Str), ("l" : Str)) :: qs ++ [(("take" : Str), ("l" : Str))]) := by simp [sl, sm]
        simp only [sif, tand, tof, ebin, ecall, acons, anil, evS, ev0, ec, e3, lift2_run, q0, eapp, lenO_con, ordO_int, decide_eq_true t5, etup, List.length_cons, List.length_nil, Nat.zero_add, if_pos z2, inO_eq, hi, Option.map_some, if_true, Bool.not_false, sset, elstc, if_pos z1, addO_con, sl_length, if_pos zl, List.length_append, List.cons_append, List.nil_append, Nat.add_comm qs.length 1, if_pos zl2, List.set_cons_succ, List.set_cons_zero, es]
      rw [seq_nx a3]
      simp
    · refine ⟨fun q hq => ?_, ?_, by simp, by simp; omega⟩
      · rcases List.mem_append.mp hq with z | z
        · rcases List.mem_cons.mp z with rfl | z
          · exact ⟨by decide +kernel, by decide +kernel⟩
          · exact (hv q z).valid
        · rw [List.mem_singleton.mp z]
          exact ⟨by decide +kernel, by decide +kernel⟩
      · refine List.nodup_append.mpr ⟨List.nodup_cons.mpr ⟨hng, hd⟩, by simp, fun a ha b hb => ?_⟩
        rw [List.mem_singleton.mp hb]
        rintro rfl
        rcases List.mem_cons.mp ha with z | z
        · exact absurd z (by decide)
        · exact hnt z
  · refine ⟨qs, m3, ?_, hp3, hbase⟩
    have a3 : sIf (tAndM (tOf (eBin (lift2 (Mi.eqO false)) (eCall (fun as => h__law_draw as []) (aCons (eVar 0) (aCons (eC (.int 3)) aNil))) (eC (.int 0)))) (tAndM (tOf (eBin (lift2 ltO) (eApp (lenO) (aCons (eVar 2) aNil)) (eC (.int 5)))) (tOf (eBin (lift2 (inO true)) (eTup (aCons (eC (.str "take")) (aCons (eC (.str "l")) aNil))) (eVar 2))))) (sSet 2 (eBin (lift2 addO) (eBin (lift2 addO) (eLstC (aCons (eTup (aCons (eC (.str "give")) (aCons (eC (.str "l")) aNil))) aNil)) (eVar 2)) (eLstC (aCons (eTup (aCons (eC (.str "take")) (aCons (eC (.str "l")) aNil))) aNil)))) sNil [some (.ref n), some (.con (wds.map .str)), some (.con (sl qs)), y3, y4] m2 = .nx [some (.ref n), some (.con (wds.map .str)), some (.con (sl qs)), y3, y4] m3 := by
      have q0 : Mi.eqO false (.int d2) (.int 0) m3 = some (.bl (d2 == 0), m3) := eq_int
      by_cases h0 : d2 = 0
      · have t5 : ¬ ((sl qs).length : Int) < 5 := by rw [sl_length]; intro z; exact hc ⟨h0, by omega⟩
        have hb : (d2 == 0) = true := by simp [h0]
        rw [hb] at q0
        simp only [sif, tand, tof, ebin, ecall, acons, anil, evS, ev0, ec, e3, lift2_run, q0, eapp, lenO_con, ordO_int, decide_eq_false t5, snil]
      · have hb : (d2 == 0) = false := by simp [h0]
        rw [hb] at q0
        simp only [sif, tand, tof, ebin, ecall, acons, anil, evS, ev0, ec, e3, lift2_run, q0, snil]
    rw [seq_nx a3]
    simp
end
end K55
end

section
set_option Elab.async false
set_option linter.all false
set_option maxRecDepth 100000
set_option maxHeartbeats 2000000
namespace K55
open PySem Mi L2
/-! ### data whose repr is known to fit -/
theorem lay_app {x y : Str} (hx : okS x) (hy : okS y) : okS (x ++ y) := by
  have hx : PyData.strOk x = true := by simpa [okS, PyData.canLay0] using hx
  have hy : PyData.strOk y = true := by simpa [okS, PyData.canLay0] using hy
  have : PyData.strOk (x ++ y) = true := by
    show ((x.cps ++ y.cps).all (· < 0x110000)) = true
    rw [Array.all_append]
    show (x.cps.all (· < 0x110000) && y.cps.all (· < 0x110000)) = true
    rw [show x.cps.all (· < 0x110000) = true from hx, show y.cps.all (· < 0x110000) = true from hy]; rfl
  simpa [okS, PyData.canLay0] using this
theorem okS_lit {x : Str} (h : PyData.canLay0 (.str x) = true) : okS x := h
theorem lay_from : ∀ (ts : List Str) (k : Nat) (acc : Str), okS acc → (∀ t ∈ ts, okS t) → okS (textFrom k acc ts)
  | [], k, acc, h, _ => h
  | t :: ts, k, acc, h, ht => lay_from ts (k + 1) _ (lay_app (lay_app h (by
      by_cases q : k > 0
      · rw [if_pos q]; exact okS_lit (by decide +kernel)
      · rw [if_neg q]; exact okS_lit (by decide +kernel))) (ht t List.mem_cons_self)) fun t hq => ht t (List.mem_cons_of_mem _ hq)
theorem lay_join : ∀ (ts : List Str), (∀ t ∈ ts, okS t) → okS (Str.join ", " ts)
  | [], _ => okS_lit (by decide +kernel)
  | [x], h => h x List.mem_cons_self
  | x :: y :: r, h => lay_app (lay_app (h x List.mem_cons_self) (okS_lit (by decide +kernel))) (lay_join (y :: r) fun t ht => h t (List.mem_cons_of_mem _ ht))
theorem lay_listText {ts : List Str} (h : ∀ t ∈ ts, okS t) : okS (listText ts) := lay_app (lay_from ts 0 _ (okS_lit (by decide +kernel)) h) (okS_lit (by decide +kernel))
theorem lay_tupleText {ts : List Str} (h : ∀ t ∈ ts, okS t) : okS (tupleText ts) := lay_app (lay_app (okS_lit (by decide +kernel)) (lay_join ts h)) (by
  by_cases q : (ts.length == 1) = true
  · rw [if_pos q]; exact okS_lit (by decide +kernel)
  · rw [if_neg q]; exact okS_lit (by decide +kernel))
structure Nice (D W : Nat) (d : PyData) : Prop where
  lay : d.canLay0 = true
  depth : d.depth ≤ D
  show_ : d.showable = true
  short : d.leavesShort 13 = true
  weight : d.weight ≤ W
  ok : okS d.shown
def niceB (D W : Nat) (d : PyData) : Bool := d.canLay0 && (decide (d.depth ≤ D) && (d.showable && (d.leavesShort 13 && (decide (d.weight ≤ W) && PyData.canLay0 (.str d.shown)))))
theorem nice_of {D W : Nat} {d : PyData} (h : niceB D W d = true) : Nice D W d := by
  obtain ⟨h1, h⟩ := Bool.and_eq_true_iff.mp h
  obtain ⟨h2, h⟩ := Bool.and_eq_true_iff.mp h
  obtain ⟨h3, h⟩ := Bool.and_eq_true_iff.mp h
  obtain ⟨h4, h⟩ := Bool.and_eq_true_iff.mp h
  obtain ⟨h5, h6⟩ := Bool.and_eq_true_iff.mp h
  exact ⟨h1, of_decide_eq_true h2, h3, h4, of_decide_eq_true h5, h6⟩
theorem nice_all {D W : Nat} : ∀ {ds : List PyData}, (∀ d ∈ ds, Nice D W d) → PyData.canLayAll0 ds = true ∧ PyData.depthAll ds ≤ D ∧ PyData.showableAll ds = true ∧ PyData.leavesShortAll 13 ds = true ∧ PyData.weightAll ds ≤ (W + 1) * ds.length ∧ ∀ t ∈ PyData.shownAll ds, okS t
  | [], _ => ⟨rfl, Nat.zero_le _, rfl, rfl, Nat.zero_le _, fun t h => by cases h⟩
  | d :: ds, h => by
    have hd := h d List.mem_cons_self
    obtain ⟨h1, h2, h3, h4, h5, h6⟩ := nice_all fun d hd => h d (List.mem_cons_of_mem _ hd)
    refine ⟨by rw [PyData.canLayAll0, hd.lay, h1]; rfl, by rw [PyData.depthAll]; have := hd.depth; omega, by rw [PyData.showableAll, hd.show_, h3]; rfl, by rw [PyData.leavesShortAll, hd.short, h4]; rfl, ?_, fun t ht => ?_⟩
    · rw [PyData.weightAll, List.length_cons, Nat.mul_succ]
      have := hd.weight
      omega
    · rw [PyData.shownAll] at ht
      rcases List.mem_cons.mp ht with rfl | ht
      · exact hd.ok
      · exact h6 t ht
theorem nice_list {D W : Nat} {ds : List PyData} (h : ∀ d ∈ ds, Nice D W d) : Nice (D + 1) ((W + 1) * ds.length) (.list ds) := by
  obtain ⟨h1, h2, h3, h4, h5, h6⟩ := nice_all h
  exact ⟨by rw [PyData.canLay0]; exact h1, by rw [PyData.depth]; omega, by rw [PyData.showable]; exact h3, by rw [PyData.leavesShort]; exact h4, by rw [PyData.weight]; exact h5, by rw [PyData.shown]; exact lay_listText h6⟩
theorem nice_tuple {D W : Nat} {ds : List PyData} (h : ∀ d ∈ ds, Nice D W d) : Nice (D + 1) ((W + 1) * ds.length) (.tuple ds) := by
  obtain ⟨h1, h2, h3, h4, h5, h6⟩ := nice_all h
  exact ⟨by rw [PyData.canLay0]; exact h1, by rw [PyData.depth]; omega, by rw [PyData.showable]; exact h3, by rw [PyData.leavesShort]; exact h4, by rw [PyData.weight]; exact h5, by rw [PyData.shown]; exact lay_tupleText h6⟩
theorem Nice.fits {D W : Nat} {d : PyData} (h : Nice D W d) (hW : W ≤ 100000) : d.shown.length ≤ sizeLine := PyData.shown_fits (B := 13) (by decide) (by decide) h.short (Nat.le_trans h.weight (Nat.le_trans hW (by decide)))
theorem nice_step {p : Step} (h : Valid p) : Nice 1 20 (sd p) := by
  have : (words.all fun w => nms.all fun n => niceB 1 20 (.tuple [.str w, .str n])) = true := by decide +kernel
  exact nice_of (List.all_eq_true.mp (List.all_eq_true.mp this _ h.w) _ h.n)
section
variable {m : MH}
theorem dat_nice {D W : Nat} {d : PyData} (h : Nice D W d) (hD : D ≤ 10) : datS m (mvD d) = some d := datS_mvD h.lay (Nat.le_trans h.depth (by omega))
theorem repr_nice {D W : Nat} {d : PyData} (h : Nice D W d) (hD : D ≤ 10) (hW : W ≤ 100000) : reprO [mvD d] m = some (.str d.shown, m) := by
  simp only [reprO, dat_nice h hD, h.show_, h.fits hW, and_self, if_true]
/-- two lists [text, repr] -/
theorem eq_pair {x y : Str} (hx : okS x) (hy : okS y) : Mi.eqO true (.con [.str x, .str y]) (.con [.str x, .str y]) m = some (.bl false, m) := by
  have hl : PyData.canLay0 (.list [.str x, .str y]) = true := by
    have h1 : PyData.canLay0 (.str x) = true := hx
    have h2 : PyData.canLay0 (.str y) = true := hy
    rw [PyData.canLay0, PyData.canLayAll0, PyData.canLayAll0, PyData.canLayAll0, h1, h2]; rfl
  have := eqO_mvD (m := m) (neg := true) (d := .list [.str x, .str y]) (f := .list [.str x, .str y]) hl (by show 1 ≤ 39; decide) hl (by show 1 ≤ 39; decide)
  rw [PySem.SeqAt.eqv_refl _ hl] at this
  exact this
theorem gseq_exc {s : SM} {h : GMd} {e e1 : ME} {x : MX} {m1 : MH} (hs : s e m = .exc x e1 m1) : gSeqQ (gPl s) h e m = ([], .exc x e1 m1) := by
  simp only [gSeqQ, gThen, gPl, hs]
theorem ok_stock : okS "stock" := okS_lit (by decide +kernel)
theorem ok_none : okS "none" := okS_lit (by decide +kernel)
theorem law_rows_stock_no {v l : MV} {D W : Nat} {d : PyData} (hv : v = mvD d) (hn : Nice D W d) (hD : D ≤ 10) (hW : W ≤ 100000) (hreq : h_require_stock [v] [] m = .exc ⟨"InvalidStock", [("value", v)]⟩ m) : h__law_rows [v, l] [] m = .ok (.con [.str "stock", .str d.shown]) m := by
  rw [r__law_rows]
  unfold b__law_rows
  have z : (2 : Nat) ≤ sizeLine := by decide
  have z0 : (0 : Nat) ≤ sizeLine := by decide
  have ho : ∃ e, h_rows_of [v, l] m = ([], .exc ⟨"InvalidStock", [("value", v)]⟩ e m) := by
    refine ⟨[some v, some l, none, none, none, none, none], ?_⟩
    show b_rows_of [some v, some l, none, none, none, none, none] m = _
    unfold b_rows_of
    have a1 : sExpr (eCall (fun as => h_require_stock as []) (aCons (eVar 0) aNil)) [some v, some l, none, none, none, none, none] m = .exc ⟨"InvalidStock", [("value", v)]⟩ [some v, some l, none, none, none, none, none] m := by simp [hreq]
    exact gseq_exc a1
  obtain ⟨e, ho⟩ := ho
  have a1 : eLcG h_rows_of (tellM "Row" "own_steps" "steps") ["InvalidStock", "InvalidNumber", "InvalidStep"] 2 (aCons (eVar 0) (aCons (eVar 1) aNil)) [some v, some l, none, none] m = .exc ⟨"InvalidStock", [("value", v)]⟩ m := by
    unfold eLcG
    simp only [acons, evS, ev0, anil, List.length_cons, List.length_nil]
    rw [if_pos trivial, ho]
    unfold lcEnd tellL
    have : ([("InvalidStock" : Str), "InvalidNumber", "InvalidStep"] : List Str).contains "InvalidStock" = true := by decide
    simp only [List.length_nil, if_pos z0, this, if_true]
  have hlk : List.lookup ("InvalidStock" : Str) [(("InvalidStep" : Str), false), (("InvalidStock" : Str), true), (("InvalidNumber" : Str), false)] = some true := by decide
  have hf : List.lookup ("value" : Str) [(("value" : Str), v)] = some v := by simp
  have hr : reprO [v] m = some (.str d.shown, m) := by rw [hv]; exact repr_nice hn hD hW
  simp [sTry, tryH, a1, hlk, hLst, hCons, hC, hRepr, hFld, hNil, bind_run, hf, liftN, hr, z]
theorem law_rows_num_no {st : List Step} {x : MV} {D W : Nat} {d : PyData} (hs : Stock st) (hx : simpleV x) (h6 : numV x 6 = false) (hv : x = mvD d) (hn : Nice D W d) (hD : D ≤ 10) (hW : W ≤ 100000) : h__law_rows [.con (sl st), x] [] m = .ok (.con [.str "none", .str d.shown]) m := by
  rw [r__law_rows]
  unfold b__law_rows
  have z : (2 : Nat) ≤ sizeLine := by decide
  have z0 : (0 : Nat) ≤ sizeLine := by decide
  have ho : ∃ e, h_rows_of [.con (sl st), x] m = ([], .exc ⟨"InvalidNumber", [("value", x)]⟩ e m) := by
    refine ⟨[some (.con (sl st)), some x, none, none, none, none, none], ?_⟩
    show b_rows_of [some (.con (sl st)), some x, none, none, none, none, none] m = _
    unfold b_rows_of
    have a1 : sExpr (eCall (fun as => h_require_stock as []) (aCons (eVar 0) aNil)) [some (.con (sl st)), some x, none, none, none, none, none] m = .nx [some (.con (sl st)), some x, none, none, none, none, none] m := by simp [require_stock_ok hs]
    have a2 : sExpr (eCall (fun as => h_require_number as []) (aCons (eVar 1) (aCons (eC (.int 6)) aNil))) [some (.con (sl st)), some x, none, none, none, none, none] m = .exc ⟨"InvalidNumber", [("value", x)]⟩ [some (.con (sl st)), some x, none, none, none, none, none] m := by simp [require_number_no hx h6]
    rw [gseq_pl a1]
    exact gseq_exc a2
  obtain ⟨e, ho⟩ := ho
  have a1 : eLcG h_rows_of (tellM "Row" "own_steps" "steps") ["InvalidStock", "InvalidNumber", "InvalidStep"] 2 (aCons (eVar 0) (aCons (eVar 1) aNil)) [some (.con (sl st)), some x, none, none] m = .exc ⟨"InvalidNumber", [("value", x)]⟩ m := by
    unfold eLcG
    simp only [acons, evS, ev0, anil, List.length_cons, List.length_nil]
    rw [if_pos trivial, ho]
    unfold lcEnd tellL
    have : ([("InvalidStock" : Str), "InvalidNumber", "InvalidStep"] : List Str).contains "InvalidNumber" = true := by decide
    simp only [List.length_nil, if_pos z0, this, if_true]
  have hlk : List.lookup ("InvalidNumber" : Str) [(("InvalidStep" : Str), false), (("InvalidStock" : Str), true), (("InvalidNumber" : Str), false)] = some false := by decide
  have hlk2 : List.lookup ("InvalidNumber" : Str) [(("InvalidStep" : Str), false), (("InvalidStock" : Str), false), (("InvalidNumber" : Str), true)] = some true := by decide
  have hf : List.lookup ("value" : Str) [(("value" : Str), x)] = some x := by simp
  have hr : reprO [x] m = some (.str d.shown, m) := by rw [hv]; exact repr_nice hn hD hW
  simp [sTry, tryH, a1, hlk, hlk2, hLst, hCons, hC, hRepr, hFld, hNil, bind_run, hf, liftN, hr, z]
/-! ### stocks that are none -/
theorem stock_no_list {v : MV} (h : isO (tab6 false false false false false true) v m = some false) : h_require_stock [v] [] m = .exc ⟨"InvalidStock", [("value", v)]⟩ m := by
  rw [r_require_stock]
  unfold b_require_stock
  have a1 : sIf (tOrM (tNotM (tOf (eIsi (tab6 false false false false false true) (eVar 0)))) (tNotM (tOf (eChain (lift2 leO) (lift2 leO) (eC (.int 1)) (eApp (lenO) (aCons (eVar 0) aNil)) (eC (.int 6)))))) (sRaise "InvalidStock" "value" (eVar 0)) sNil [some v, none] m = .exc ⟨"InvalidStock", [("value", v)]⟩ [some v, none] m := by
    simp [h]
  rw [seq_exc a1]
  rfl
theorem stock_no_len {xs : List MV} (h : ¬ (1 ≤ xs.length ∧ xs.length ≤ 6)) : h_require_stock [.con xs] [] m = .exc ⟨"InvalidStock", [("value", .con xs)]⟩ m := by
  rw [r_require_stock]
  unfold b_require_stock
  have h1 := chain_len (m := m) (xs := xs) (n := xs.length) (e := [none]) rfl
  have e1 : (decide (1 ≤ xs.length) && decide (xs.length ≤ 6)) = false := by
    simpa using h
  rw [e1] at h1
  have a1 : sIf (tOrM (tNotM (tOf (eIsi (tab6 false false false false false true) (eVar 0)))) (tNotM (tOf (eChain (lift2 leO) (lift2 leO) (eC (.int 1)) (eApp (lenO) (aCons (eVar 0) aNil)) (eC (.int 6)))))) (sRaise "InvalidStock" "value" (eVar 0)) sNil [some (.con xs), none] m = .exc ⟨"InvalidStock", [("value", .con xs)]⟩ [some (.con xs), none] m := by
    simp only [sif, tor, tnot, tof, eisi, ev0, isO6_con, h1, Bool.not_true, Bool.not_false, sraise]
  rw [seq_exc a1]
  rfl
theorem steps_bools {x0 : Option MV} {xs : List MV} {bs : List Bool} (h : collL (turnC (gNm 1) tYesM (eCall (fun as => h_is_step as []) (aCons (eVar 1) aNil)) [x0, none]) xs m = .ok (bs.map .bl) m) : True := trivial
theorem boolsOf_map : ∀ bs : List Bool, boolsOf (bs.map .bl) = some bs
  | [] => rfl
  | b :: bs => by
    show (boolsOf (bs.map .bl)).map (b :: ·) = _
    rw [boolsOf_map bs]; rfl
/-- an item that is no step -/
theorem stock_no_step {xs : List MV} {f : MV → Bool} (hl : 1 ≤ xs.length ∧ xs.length ≤ 6) (h : ∀ x ∈ xs, h_is_step [x] [] m = .ok (.bl (f x)) m) (hf : xs.all f = false) : h_require_stock [.con xs] [] m = .exc ⟨"InvalidStock", [("value", .con xs)]⟩ m := by
  rw [r_require_stock]
  unfold b_require_stock
  have h1 := chain_len (m := m) (xs := xs) (n := xs.length) (e := [none]) rfl
  have e1 : (decide (1 ≤ xs.length) && decide (xs.length ≤ 6)) = true := by simp [hl]
  rw [e1] at h1
  have a1 : sIf (tOrM (tNotM (tOf (eIsi (tab6 false false false false false true) (eVar 0)))) (tNotM (tOf (eChain (lift2 leO) (lift2 leO) (eC (.int 1)) (eApp (lenO) (aCons (eVar 0) aNil)) (eC (.int 6)))))) (sRaise "InvalidStock" "value" (eVar 0)) sNil [some (.con xs), none] m = .nx [some (.con xs), none] m := by
    simp only [sif, tor, tnot, tof, eisi, ev0, isO6_con, h1, Bool.not_true, snil]
  rw [seq_nx a1]
  have hc : collL (turnC (gNm 1) tYesM (eCall (fun as => h_is_step as []) (aCons (eVar 1) aNil)) [some (.con xs), none]) xs m = .ok ((xs.map f).map .bl) m := by
    rw [collL_pure (φ := fun x => [.bl (f x)]) fun x hx => by simp [h x hx]]
    congr 1
    clear h hf h1 a1 hl e1
    induction xs with
    | nil => rfl
    | cons x xs ih => rw [List.flatMap_cons, ih]; rfl
  have z : ((xs.map f).map MV.bl).length ≤ sizeLine := by
    rw [List.length_map, List.length_map]
    exact Nat.le_trans hl.2 (by decide)
  have ha : allO false [.con ((xs.map f).map .bl)] m = some (.bl false, m) := by
    unfold allO
    simp only [lstM, Option.bind_some, boolsOf_map, Option.map_some, Bool.false_eq_true, if_false]
    rw [show ((xs.map f).all _root_.id) = xs.all f by simp [List.all_map], hf]
  simp only [sif, tor, tnot, tof, eapp, acons, anil, ecomp, iseq, ev0, srcSeq_con, cfx, wipeM, List.set_cons_succ, List.set_cons_zero, hc, if_pos z, ha, Bool.not_false, sraise, ofSO_exc]
/-- a step twice -/
theorem once_lt {α : Type} [DecidableEq α] : ∀ {l : List α}, ¬ l.Nodup → (onceL l).length < l.length
  | [], h => absurd List.nodup_nil h
  | a :: l, h => by
    have le : ∀ l : List α, (onceL l).length ≤ l.length := fun l => by
      induction l with
      | nil => exact Nat.le_refl _
      | cons b l ih =>
        unfold onceL
        split
        · rw [List.length_cons]; omega
        · rw [List.length_cons, List.length_cons]; omega
    unfold onceL
    by_cases q : a ∈ l
    · rw [if_pos q, List.length_cons]
      have := le l
      omega
    · rw [if_neg q, List.length_cons, List.length_cons]
      have : ¬ l.Nodup := fun z => h (List.nodup_cons.mpr ⟨q, z⟩)
      have := once_lt this
      omega
theorem stock_no_twice {ps : List Step} (hv : ∀ q ∈ ps, Valid q) (hl : 1 ≤ ps.length ∧ ps.length ≤ 6) (hd : ¬ ps.Nodup) : h_require_stock [.con (sl ps)] [] m = .exc ⟨"InvalidStock", [("value", .con (sl ps))]⟩ m := by
  rw [r_require_stock]
  unfold b_require_stock
  have h1 := chain_len (m := m) (xs := sl ps) (n := ps.length) (e := [none]) sl_length
  have e1 : (decide (1 ≤ ps.length) && decide (ps.length ≤ 6)) = true := by simp [hl]
  rw [e1] at h1
  have z' : (ps.map fun _ => MV.bl true).length ≤ sizeLine := by rw [List.length_map]; exact Nat.le_trans hl.2 (by decide)
  have ha : allO false [.con (ps.map fun _ => MV.bl true)] m = some (.bl true, m) := by
    unfold allO
    simp only [lstM, Option.bind_some, bools_true, Option.map_some]
    simp
  have hnd : ¬ (ps.map fun p => [p.1, p.2]).Nodup := fun z => hd (by
    refine List.Pairwise.of_map (f := fun p : Step => [p.1, p.2]) (S := (· ≠ ·)) (fun a b hab e => hab (by rw [e])) z)
  have hs : eLenSet (eVar 0) [some (.con (sl ps)), none] m = .ok (.int ((onceL (ps.map fun p => [p.1, p.2])).length : Nat)) m := by
    show (match (lstM m (.con (sl ps))).bind stepsM with
      | some ks => if ks.length < 64 then .ok (.int (onceL ks).length) m else .bad
      | none => .bad : Res MV) = _
    rw [show (lstM m (.con (sl ps))).bind stepsM = stepsM (sl ps) from rfl, stepsM_sl]
    simp only [List.length_map]
    rw [if_pos (by omega)]
  have a1 : sIf (tOrM (tNotM (tOf (eIsi (tab6 false false false false false true) (eVar 0)))) (tNotM (tOf (eChain (lift2 leO) (lift2 leO) (eC (.int 1)) (eApp (lenO) (aCons (eVar 0) aNil)) (eC (.int 6)))))) (sRaise "InvalidStock" "value" (eVar 0)) sNil [some (.con (sl ps)), none] m = .nx [some (.con (sl ps)), none] m := by
    simp only [sif, tor, tnot, tof, eisi, ev0, isO6_con, h1, Bool.not_true, snil]
  rw [seq_nx a1]
  have lt := once_lt hnd
  rw [List.length_map] at lt
  have en : Mi.eqO true (.int ((onceL (ps.map fun p => [p.1, p.2])).length : Nat)) (.int ((sl ps).length : Nat)) m = some (.bl true, m) := by
    rw [sl_length, eq_int, beq_eq_false_iff_ne.mpr (by omega)]; rfl
  have hc := all_steps (m := m) (x0 := some (.con (sl ps))) hv
  simp only [sif, tor, tnot, tof, eapp, acons, anil, ecomp, iseq, ev0, srcSeq_con, cfx, wipeM, List.set_cons_succ, List.set_cons_zero, hc, if_pos z', ha, Bool.not_true, ebin, hs, lenO_con, lift2_run, en, sraise, ofSO_exc]
end
end K55
end

section
set_option Elab.async false
set_option linter.all false
set_option maxRecDepth 100000
set_option maxHeartbeats 2000000
namespace K55
open PySem Mi L2
section
variable {m : MH}
/-- a for whose turns leave all but their own name -/
theorem forL_same {f : SM} {s0 s1 s2 s4 s5 : Option MV} : ∀ {xs : List MV} {x3 : Option MV}, (∀ x ∈ xs, f [s0, s1, s2, some x, s4, s5] m = .nx [s0, s1, s2, some x, s4, s5] m) → ∃ y3, forL (gNm 3) f xs [s0, s1, s2, x3, s4, s5] m = .nx [s0, s1, s2, y3, s4, s5] m
  | [], x3, _ => ⟨x3, rfl⟩
  | x :: xs, x3, h => by
    obtain ⟨y3, e⟩ := forL_same (x3 := some x) fun y hy => h y (List.mem_cons_of_mem _ hy)
    refine ⟨y3, ?_⟩
    rw [forL_cons]
    simp only [gnm, List.set_cons_succ, List.set_cons_zero, h x List.mem_cons_self]
    exact e
structure OddS (v : MV) (d : PyData) : Prop where
  isd : v = mvD d
  nice : Nice 6 10000 d
  req : ∀ m, h_require_stock [v] [] m = .exc ⟨"InvalidStock", [("value", v)]⟩ m
theorem f2_ok {v : MV} {d : PyData} {s0 s1 s2 s4 s5 : Option MV} (h : OddS v d) : b__law_refused_f2 [s0, s1, s2, some v, s4, s5] m = .nx [s0, s1, s2, some v, s4, s5] m := by
  unfold b__law_refused_f2
  have z : (2 : Nat) ≤ sizeLine := by decide
  have h1 := law_rows_stock_no (m := m) (l := .int (-1)) h.isd h.nice (by decide) (by decide) (h.req m)
  have h2 : reprO [v] m = some (.str d.shown, m) := by rw [h.isd]; exact repr_nice h.nice (by decide) (by decide)
  have h3 := eq_pair (m := m) ok_stock h.nice.ok
  simp only [sif, tof, ebin, ecall, acons, anil, evS, ev0, eneg, ec, h1, elstc, eapp, h2, List.length_cons, List.length_nil, Nat.zero_add, if_pos z, lift2_run, h3, snil]
theorem f1_ok {st : List Step} {v : MV} {d : PyData} {s1 s2 s4 s5 : Option MV} (hs : Stock st) (hx : simpleV v) (h6 : numV v 6 = false) (hv : v = mvD d) (hn : Nice 6 10000 d) : b__law_refused_f1 [some (.con (sl st)), s1, s2, some v, s4, s5] m = .nx [some (.con (sl st)), s1, s2, some v, s4, s5] m := by
  unfold b__law_refused_f1
  have z : (2 : Nat) ≤ sizeLine := by decide
  have h1 := law_rows_num_no (m := m) hs hx h6 hv hn (by decide) (by decide)
  have h2 : reprO [v] m = some (.str d.shown, m) := by rw [hv]; exact repr_nice hn (by decide) (by decide)
  have h3 := eq_pair (m := m) ok_none hn.ok
  simp only [sif, tof, ebin, ecall, acons, anil, evS, ev0, ec, h1, elstc, eapp, h2, List.length_cons, List.length_nil, Nat.zero_add, if_pos z, lift2_run, h3, snil]
theorem f0p_ok {v : MV} {d : PyData} {s0 s2 s4 s5 : Option MV} {r : MV} (hx : simpleV v) (h6 : numV v 1000 = false) (hd : ∀ m, datS m v = some d) (hs : d.showable = true) (hl : d.shown.length ≤ sizeLine) (ho : okS d.shown) : b__law_refused_f0 [s0, some r, s2, some v, s4, s5] m = .nx [s0, some r, s2, some v, s4, s5] m := by
  unfold b__law_refused_f0
  have z : (2 : Nat) ≤ sizeLine := by decide
  have h1 := law_price_no (m := m) (r := r) (x := v) (y := .int (-5)) (v := v) hx trivial (.inl ⟨h6, rfl⟩) (hd m) hs hl
  have h1' := law_price_no (m := m) (r := r) (x := .int 0) (y := v) (v := v) trivial hx (.inr ⟨by decide, h6, rfl⟩) (hd m) hs hl
  have h2 : reprO [v] m = some (.str d.shown, m) := by simp only [reprO, hd, hs, hl, and_self, if_true]
  have h3 := eq_pair (m := m) ok_none ho
  simp only [sif, tor, tof, ebin, ecall, acons, anil, evS, ev0, eneg, ec, h1, h1', elstc, eapp, h2, List.length_cons, List.length_nil, Nat.zero_add, if_pos z, lift2_run, h3, snil]
def many : List Step := [("bar", "a"), ("bar", "b"), ("bar", "c"), ("bar", "d"), ("bar", "e"), ("bar", "f"), ("bar", "g")]
theorem many_valid : ∀ q ∈ many, Valid q := by
  have : (many.all fun q => words.contains q.1 && nms.contains q.2) = true := by decide +kernel
  intro q hq
  have z := List.all_eq_true.mp this q hq
  simp only [Bool.and_eq_true, List.contains_iff_mem] at z
  exact ⟨z.1, z.2⟩
theorem many6 : Stock (many.take 6) := ⟨fun q hq => many_valid q (List.mem_of_mem_take hq), by decide +kernel, by decide, by decide⟩
theorem many_rows : (outFrom (many.take 6) 0 2).length = 7 := by decide +kernel
theorem nice_steps {ps : List Step} (h : ∀ q ∈ ps, Valid q) : ∀ d ∈ ps.map sd, Nice 1 20 d := fun d hd => by
  obtain ⟨p, hp, rfl⟩ := List.mem_map.mp hd
  exact nice_step (h p hp)
theorem Nice.mono {D D' W W' : Nat} {d : PyData} (h : Nice D W d) (hD : D ≤ D') (hW : W ≤ W') : Nice D' W' d := ⟨h.lay, Nat.le_trans h.depth hD, h.show_, h.short, Nat.le_trans h.weight hW, h.ok⟩
theorem is_step_use : h_is_step [.tup [.str "use"]] [] m = .ok (.bl false) m := by rfl
theorem is_step_non : h_is_step [.non] [] m = .ok (.bl false) m := by rfl
theorem is_step_str : h_is_step [.str "bar"] [] m = .ok (.bl false) m := by rfl
theorem is_step_con {xs : List MV} : h_is_step [.con xs] [] m = .ok (.bl false) m := by rfl
theorem p2 (m : MH) : powO (.int 10) (.int 30) m = some (.int (10 ^ 30), m) := powR (k := 30) (by omega) (by omega)
theorem refused_ok {st : List Step} {r : MV} (h : Stock st) : ∃ m', h__law_refused [.con (sl st), r] [] m = .ok (.bl true) m' := by
  rw [r__law_refused]
  unfold b__law_refused
  have z0 : (0 : Nat) ≤ sizeLine := by decide
  have z1 : (1 : Nat) ≤ sizeLine := by decide
  have z2 : (2 : Nat) ≤ sizeLine := by decide
  have z5 : (5 : Nat) ≤ sizeLine := by decide
  have z6 : (6 : Nat) ≤ sizeLine := by decide
  have z7 : (7 : Nat) ≤ sizeLine := by decide
  obtain ⟨p, ps, rfl⟩ : ∃ p ps, st = p :: ps := by
    cases st with
    | nil => exact absurd h.pos (by decide)
    | cons p ps => exact ⟨p, ps, rfl⟩
  generalize hst : p :: ps = st at *
  have hhead : sl st = sm p :: sl ps := by rw [← hst]; rfl
  have hpv : Valid p := h.v p (by rw [← hst]; exact List.mem_cons_self)
  have c1 : cutM (sl st) none (some 1) = sl (st.take 1) := by
    have := cut_to (xs := sl st) (k := 1)
    rw [sl, sl, List.map_take]
    exact this
  have c5 : cutM (sl st) none (some 5) = sl (st.take 5) := by
    have := cut_to (xs := sl st) (k := 5)
    rw [sl, sl, List.map_take]
    exact this
  have l1 : st.length + (st.take 1).length ≤ sizeLine := Nat.le_trans (show _ ≤ 100 by have := h.most; simp; omega) (by decide)
  have l5 : (st.take 5).length + 1 ≤ sizeLine := Nat.le_trans (show _ ≤ 100 by simp; omega) (by decide)
  have app : ∀ a b : List Step, sl a ++ sl b = sl (a ++ b) := fun a b => by simp [sl]
  -- the odd ones
  have a1 : sSet 2 (eLstC (aCons (eC .non) (aCons (eLstC aNil) (aCons (eApp (tupleO) (aCons (eVar 0) aNil)) (aCons (eBin (lift2 addO) (eVar 0) (eSl (eVar 0) oNone (oSome (eC (.int 1))))) (aCons (eLstC (aCons (eC .non) aNil)) (aCons (eBin (lift2 addO) (eSl (eVar 0) oNone (oSome (eC (.int 5)))) (eLstC (aCons (eTup (aCons (eC (.str "use")) aNil)) aNil))) (aCons (eLstC (aCons (eC (.str "bar")) aNil)) aNil)))))))) [some (.con (sl st)), some r, none, none, none, none] m = .nx [some (.con (sl st)), some r, some (.con [.non, .con [], .tup (sl st), .con (sl (st ++ st.take 1)), .con [.non], .con (sl (st.take 5) ++ [.tup [.str "use"]]), .con [.str "bar"]]), none, none, none] m := by
    simp only [sset, elstc, acons, anil, ec, eapp, ev0, evS, tupleO_con, ebin, esl, onone, osome, slM_con, lift2_run, c1, c5, addO_con, sl_length, if_pos l1, app, etup, List.length_cons, List.length_nil, Nat.zero_add, if_pos z0, if_pos z1, if_pos l5, if_pos z7, List.set_cons_succ, List.set_cons_zero]
  have o1 : OddS .non .none := ⟨rfl, nice_of (by decide +kernel), fun m => stock_no_list rfl⟩
  have o2 : OddS (.con []) (.list []) := ⟨rfl, nice_of (by decide +kernel), fun m => stock_no_len (by simp)⟩
  have o3 : OddS (.tup (sl st)) (.tuple (st.map sd)) := ⟨by rw [mvD, sl_sd], (nice_tuple (nice_steps h.v)).mono (by decide) (by rw [List.length_map]; have := h.most; omega), fun m => stock_no_list rfl⟩
  have hv4 : ∀ q ∈ st ++ st.take 1, Valid q := fun q hq => by
    rcases List.mem_append.mp hq with z | z
    · exact h.v q z
    · exact h.v q (List.mem_of_mem_take z)
  have hlen4 : (st ++ st.take 1).length = st.length + 1 := by
    rw [List.length_append, List.length_take]
    have := h.pos
    omega
  have o4 : OddS (.con (sl (st ++ st.take 1))) (.list ((st ++ st.take 1).map sd)) := by
    refine ⟨by rw [mvD, sl_sd], (nice_list (nice_steps hv4)).mono (by decide) (by rw [List.length_map, hlen4]; have := h.most; omega), fun m => ?_⟩
    by_cases h6 : st.length < 6
    · refine stock_no_twice hv4 (by rw [hlen4]; omega) fun z => ?_
      have hp1 : p ∈ st := by rw [← hst]; exact List.mem_cons_self
      have hp2 : p ∈ st.take 1 := by rw [← hst]; simp
      exact (List.nodup_append.mp z).2.2 p hp1 p hp2 rfl
    · exact stock_no_len (by rw [sl_length, hlen4]; omega)
  have o5 : OddS (.con [.non]) (.list [.none]) := ⟨rfl, nice_of (by decide +kernel), fun m => stock_no_step (f := fun _ => false) (by simp) (fun x hx => by rw [List.mem_singleton.mp hx]; exact is_step_non) rfl⟩
  have huse : Nice 1 20 (.tuple [.str "use"]) := nice_of (by decide +kernel)
  have h5v : ∀ q ∈ st.take 5, Valid q := fun q hq => h.v q (List.mem_of_mem_take hq)
  have o6 : OddS (.con (sl (st.take 5) ++ [.tup [.str "use"]])) (.list ((st.take 5).map sd ++ [.tuple [.str "use"]])) := by
    refine ⟨by rw [mvD, mvDs_map, List.map_append, List.map_map]; rfl, (nice_list (D := 1) (W := 20) fun d hd => ?_).mono (by decide) (by simp; omega), fun m => stock_no_step (f := fun x => match x with
      | .tup [_, _] => true
      | _ => false) (by simp [sl_length]; omega) (fun x hx => ?_) ?_⟩
    · rcases List.mem_append.mp hd with z | z
      · exact nice_steps h5v d z
      · rw [List.mem_singleton.mp z]; exact huse
    · rcases List.mem_append.mp hx with z | z
      · obtain ⟨q, hq, rfl⟩ := List.mem_map.mp z
        exact is_step_ok (h5v q hq)
      · rw [List.mem_singleton.mp z]; exact is_step_use
    · rw [List.all_append]; simp
  have o7 : OddS (.con [.str "bar"]) (.list [.str "bar"]) := ⟨rfl, nice_of (by decide +kernel), fun m => stock_no_step (f := fun _ => false) (by simp) (fun x hx => by rw [List.mem_singleton.mp hx]; exact is_step_str) rfl⟩
  have o8 : OddS (.con [.con [.str p.1, .str p.2]]) (.list [.list [.str p.1, .str p.2]]) := by
    refine ⟨rfl, ?_, fun m => stock_no_step (f := fun _ => false) (by simp) (fun x hx => by rw [List.mem_singleton.mp hx]; exact is_step_con) rfl⟩
    have : (words.all fun w => nms.all fun n => niceB 6 10000 (.list [.list [.str w, .str n]])) = true := by decide +kernel
    exact nice_of (List.all_eq_true.mp (List.all_eq_true.mp this _ hpv.w) _ hpv.n)
  obtain ⟨y3, e2⟩ := forL_same (m := m) (f := b__law_refused_f2) (s0 := some (.con (sl st))) (s1 := some r) (s2 := some (.con [.non, .con [], .tup (sl st), .con (sl (st ++ st.take 1)), .con [.non], .con (sl (st.take 5) ++ [.tup [.str "use"]]), .con [.str "bar"]])) (s4 := none) (s5 := none) (x3 := none)
    (xs := [.non, .con [], .tup (sl st), .con (sl (st ++ st.take 1)), .con [.non], .con (sl (st.take 5) ++ [.tup [.str "use"]]), .con [.str "bar"], .con [.con [.str p.1, .str p.2]]]) (fun x hx => by
      simp only [List.mem_cons, List.not_mem_nil, or_false] at hx
      rcases hx with rfl | rfl | rfl | rfl | rfl | rfl | rfl | rfl
      · exact f2_ok o1
      · exact f2_ok o2
      · exact f2_ok o3
      · exact f2_ok o4
      · exact f2_ok o5
      · exact f2_ok o6
      · exact f2_ok o7
      · exact f2_ok o8)
  have hsrc : iSeqM (eBin (lift2 addO) (eVar 2) (eLstC (aCons (eLstC (aCons (eApp (listO) (aCons (eBin (lift2 ixO) (eVar 0) (eC (.int 0))) aNil)) aNil)) aNil))) [some (.con (sl st)), some r, some (.con [.non, .con [], .tup (sl st), .con (sl (st ++ st.take 1)), .con [.non], .con (sl (st.take 5) ++ [.tup [.str "use"]]), .con [.str "bar"]]), none, none, none] m = .ok (.fx [.non, .con [], .tup (sl st), .con (sl (st ++ st.take 1)), .con [.non], .con (sl (st.take 5) ++ [.tup [.str "use"]]), .con [.str "bar"], .con [.con [.str p.1, .str p.2]]]) m := by
    have hix : ixO (.con (sl st)) (.int 0) m = some (.tup [.str p.1, .str p.2], m) := by rw [ixO_con, hhead, atI_0]; rfl
    have z8 : (8 : Nat) ≤ sizeLine := by decide
    simp only [iseq, ebin, evS, ev0, elstc, acons, anil, eapp, ec, lift2_run, hix, listO_tup, List.length_cons, List.length_nil, Nat.zero_add, if_pos z1, addO_con, if_pos z8, srcSeq_con, List.cons_append, List.nil_append]
  rw [seq_nx a1, seq_nx ((sfor_run hsrc).trans e2)]
  -- seven steps
  generalize hS2 : some (MV.con [.non, .con [], .tup (sl st), .con (sl (st ++ st.take 1)), .con [.non], .con (sl (st.take 5) ++ [.tup [.str "use"]]), .con [.str "bar"]]) = s2
  have a3 : sSet 4 (eComp (iSeqM (eLstC (aCons (eC (.str "a")) (aCons (eC (.str "b")) (aCons (eC (.str "c")) (aCons (eC (.str "d")) (aCons (eC (.str "e")) (aCons (eC (.str "f")) (aCons (eC (.str "g")) aNil))))))))) [5] (turnC (gNm 5) tYesM (eTup (aCons (eC (.str "bar")) (aCons (eVar 5) aNil))))) [some (.con (sl st)), some r, s2, y3, none, none] m = .nx [some (.con (sl st)), some r, s2, y3, some (.con (sl many)), none] m := by rfl
  rw [seq_nx a3]
  obtain ⟨m2, e4⟩ := law_rows_ok (m := m) (st := many.take 6) (L := 1) many6 (by decide)
  have nm : Nice 6 10000 (.list (many.map sd)) := (nice_list (nice_steps many_valid)).mono (by decide) (by decide)
  have hm1 := law_rows_stock_no (m := m) (v := .con (sl many)) (l := .int 0) (by rw [mvD, sl_sd]) nm (by decide) (by decide) (stock_no_len (by decide))
  have hr1 : reprO [.con (sl many)] m = some (.str (PyData.list (many.map sd)).shown, m) := by
    have := repr_nice (m := m) nm (by decide) (by decide)
    rw [mvD, ← sl_sd] at this
    exact this
  have hq1 := eq_pair (m := m) ok_stock nm.ok
  have hcut : cutM (sl many) none (some 6) = sl (many.take 6) := by rfl
  have hq2 : Mi.eqO true (.int ((rl (outFrom (many.take 6) 0 (1 + 1))).length : Nat)) (.int 7) m2 = some (.bl false, m2) := by
    rw [show (rl (outFrom (many.take 6) 0 (1 + 1))).length = 7 from by rw [rl, List.length_map]; exact many_rows, eq_int]; rfl
  have e4' : h__law_rows [.con (sl (many.take 6)), .int 1] [] m = .ok (.con (rl (outFrom (many.take 6) 0 (1 + 1)))) m2 := e4
  have a4 : sIf (tOrM (tOf (eBin (lift2 (Mi.eqO true)) (eCall (fun as => h__law_rows as []) (aCons (eVar 4) (aCons (eC (.int 0)) aNil))) (eLstC (aCons (eC (.str "stock")) (aCons (eApp (reprO) (aCons (eVar 4) aNil)) aNil))))) (tOf (eBin (lift2 (Mi.eqO true)) (eApp (lenO) (aCons (eCall (fun as => h__law_rows as []) (aCons (eSl (eVar 4) oNone (oSome (eC (.int 6)))) (aCons (eC (.int 1)) aNil))) aNil)) (eC (.int 7))))) (sRet (eC (.bl false))) sNil [some (.con (sl st)), some r, s2, y3, some (.con (sl many)), none] m = .nx [some (.con (sl st)), some r, s2, y3, some (.con (sl many)), none] m2 := by
    simp only [sif, tor, tof, ebin, ecall, acons, anil, evS, ev0, ec, hm1, elstc, eapp, hr1, List.length_cons, List.length_nil, Nat.zero_add, if_pos z2, lift2_run, hq1, esl, onone, osome, slM_con, hcut, e4', lenO_con, hq2, snil]
  rw [seq_nx a4]
  -- numbers, prices
  have hsrc1 : iSeqM (eLstC (aCons (eNeg (eC (.int 1))) (aCons (eC (.int 7)) (aCons (eC (.bl true)) (aCons (eC .non) (aCons (eC (.str "1")) aNil)))))) [some (.con (sl st)), some r, s2, y3, some (.con (sl many)), none] m2 = .ok (.fx [.int (-1), .int 7, .bl true, .non, .str "1"]) m2 := by
    simp only [iseq, elstc, acons, anil, eneg, ec, List.length_cons, List.length_nil, Nat.zero_add, if_pos z5, srcSeq_con]
  obtain ⟨y3', e5⟩ := forL_same (m := m2) (f := b__law_refused_f1) (s0 := some (.con (sl st))) (s1 := some r) (s2 := s2) (s4 := some (.con (sl many))) (s5 := none) (x3 := y3) (xs := [.int (-1), .int 7, .bl true, .non, .str "1"]) (fun x hx => by
    simp only [List.mem_cons, List.not_mem_nil, or_false] at hx
    rcases hx with rfl | rfl | rfl | rfl | rfl
    · exact f1_ok h trivial (by decide) (d := .int (-1)) rfl (nice_of (by decide +kernel))
    · exact f1_ok h trivial (by decide) (d := .int 7) rfl (nice_of (by decide +kernel))
    · exact f1_ok h trivial (by decide) (d := .bool true) rfl (nice_of (by decide +kernel))
    · exact f1_ok h trivial (by decide) (d := .none) rfl (nice_of (by decide +kernel))
    · exact f1_ok h trivial (by decide) (d := .str "1") rfl (nice_of (by decide +kernel)))
  rw [seq_nx ((sfor_run hsrc1).trans e5)]
  have hsrc2 : iSeqM (eLstC (aCons (eNeg (eC (.int 1))) (aCons (eC (.int 1001)) (aCons (eC (.bl true)) (aCons (eC .non) (aCons (eC (.str "1")) (aCons (eBin (lift2 powO) (eC (.int 10)) (eC (.int 30))) aNil))))))) [some (.con (sl st)), some r, s2, y3', some (.con (sl many)), none] m2 = .ok (.fx [.int (-1), .int 1001, .bl true, .non, .str "1", .int (10 ^ 30)]) m2 := by
    simp only [iseq, elstc, acons, anil, eneg, ec, ebin, lift2_run, p2, List.length_cons, List.length_nil, Nat.zero_add, if_pos z6, srcSeq_con]
  have fit : ∀ (v : MV) (d : PyData), v = mvD d → (d.canLay0 && (decide (d.depth ≤ 10) && (d.showable && (decide (d.shown.length ≤ sizeLine) && PyData.canLay0 (.str d.shown))))) = true → simpleV v → numV v 1000 = false → b__law_refused_f0 [some (.con (sl st)), some r, s2, some v, some (.con (sl many)), none] m2 = .nx [some (.con (sl st)), some r, s2, some v, some (.con (sl many)), none] m2 := fun v d hv hb hx hn => by
    obtain ⟨b1, hb⟩ := Bool.and_eq_true_iff.mp hb
    obtain ⟨b2, hb⟩ := Bool.and_eq_true_iff.mp hb
    obtain ⟨b3, hb⟩ := Bool.and_eq_true_iff.mp hb
    obtain ⟨b4, b5⟩ := Bool.and_eq_true_iff.mp hb
    refine f0p_ok hx hn (fun m => ?_) b3 (of_decide_eq_true b4) b5
    rw [hv]
    exact datS_mvD b1 (Nat.le_trans (of_decide_eq_true b2) (by decide))
  obtain ⟨y3'', e6⟩ := forL_same (m := m2) (f := b__law_refused_f0) (s0 := some (.con (sl st))) (s1 := some r) (s2 := s2) (s4 := some (.con (sl many))) (s5 := none) (x3 := y3') (xs := [.int (-1), .int 1001, .bl true, .non, .str "1", .int (10 ^ 30)]) (fun x hx => by
    simp only [List.mem_cons, List.not_mem_nil, or_false] at hx
    rcases hx with rfl | rfl | rfl | rfl | rfl | rfl
    · exact fit _ (.int (-1)) rfl (by decide +kernel) trivial (by decide)
    · exact fit _ (.int 1001) rfl (by decide +kernel) trivial (by decide)
    · exact fit _ (.bool true) rfl (by decide +kernel) trivial (by decide)
    · exact fit _ .none rfl (by decide +kernel) trivial (by decide)
    · exact fit _ (.str "1") rfl (by decide +kernel) trivial (by decide)
    · exact fit _ (.int (10 ^ 30)) rfl (by decide +kernel) trivial (by decide +kernel))
  rw [seq_nx ((sfor_run hsrc2).trans e6)]
  exact ⟨m2, by simp only [sret, ec, ofSO_rt]⟩
end
end K55
end

section
set_option Elab.async false
set_option linter.all false
set_option maxRecDepth 100000
set_option maxHeartbeats 2000000
namespace K55
open PySem Mi L2
/-! ### both listings agree -/
theorem stp_all (st : List Step) : (List.range st.length).map (stp st) = st := by
  refine List.ext_getElem (by simp) fun i h1 h2 => ?_
  simp [stp, List.getD_eq_getElem?_getD, h2]
theorem stp_inj {st : List Step} (hd : st.Nodup) {i j : Nat} (hi : i < st.length) (hj : j < st.length) (e : stp st i = stp st j) : i = j := by
  simp [stp, List.getD_eq_getElem?_getD, hi, hj] at e
  exact (List.getElem_inj hd).mp e
theorem contains_stp {st : List Step} (hd : st.Nodup) {c : List Nat} (hc : ∀ i ∈ c, i < st.length) {i : Nat} (hi : i < st.length) : (c.map (stp st)).contains (stp st i) = c.contains i := by
  rw [Bool.eq_iff_iff]
  simp only [List.contains_iff_mem, List.mem_map]
  constructor
  · rintro ⟨j, hj, e⟩
    rw [← stp_inj hd (hc j hj) hi e]; exact hj
  · exact fun h => ⟨i, h, rfl⟩
theorem next_eq {st : List Step} (hd : st.Nodup) : ∀ cs : List (List Nat), (∀ c ∈ cs, ∀ i ∈ c, i < st.length) → nextS st (cs.map (·.map (stp st))) = (nextL st.length cs).map (·.map (stp st))
  | [], _ => rfl
  | c :: cs, h => by
    have ih := next_eq hd cs fun c hc => h c (List.mem_cons_of_mem _ hc)
    have e1 : nextS st ((c :: cs).map (·.map (stp st))) = ((st.filter fun p => !(c.map (stp st)).contains p).map fun p => c.map (stp st) ++ [p]) ++ nextS st (cs.map (·.map (stp st))) := by simp [nextS]
    have e2 : nextL st.length (c :: cs) = (((List.range st.length).filter fun i => !c.contains i).map fun i => c ++ [i]) ++ nextL st.length cs := by simp [nextL]
    rw [e1, e2, ih, List.map_append]
    congr 1
    have e3 : st.filter (fun p => !(c.map (stp st)).contains p) = ((List.range st.length).filter fun i => !c.contains i).map (stp st) := by
      have : st.filter (fun p => !(c.map (stp st)).contains p) = ((List.range st.length).map (stp st)).filter (fun p => !(c.map (stp st)).contains p) := by rw [stp_all]
      rw [this, List.filter_map]
      congr 1
      refine List.filter_congr fun i hi => ?_
      show (!(c.map (stp st)).contains (stp st i)) = _
      rw [contains_stp hd (h c List.mem_cons_self) (List.mem_range.mp hi)]
    rw [e3, List.map_map, List.map_map]
    refine List.map_congr_left fun i _ => ?_
    simp
theorem line_eq {st : List Step} (hd : st.Nodup) : ∀ t, lineS st t = (linesL st.length t).map (·.map (stp st))
  | 0 => rfl
  | t + 1 => by
    show nextS st (lineS st t) = (nextL st.length (linesL st.length t)).map (·.map (stp st))
    rw [line_eq hd t, next_eq hd _ fun c hc => (linesL_mem t c hc).1]
theorem out_eq {st : List Step} (hd : st.Nodup) : ∀ (k t : Nat), outFrom st (t + 1) k = (foundS st t k).filter bal
  | 0, t => rfl
  | k + 1, t => by
    rw [outFrom, foundS, List.filter_append, out_eq hd k (t + 1), outT, ← line_eq hd]
theorem listed_eq {st : List Step} (hd : st.Nodup) (L : Nat) : outFrom st 0 (L + 1) = listed st L := by
  rw [outFrom, out_eq hd L 0, listed, outT, ← line_eq hd]
  show ([[]] : List (List Step)).filter bal ++ _ = _
  rw [← List.filter_append]
  rfl
theorem listed_mem {st : List Step} {Q : Step → Prop} (h : ∀ q ∈ st, Q q) {L : Nat} : ∀ r ∈ listed st L, (∀ q ∈ r, Q q) ∧ r.length ≤ L ∧ bal r = true := fun r hr => by
  obtain ⟨h1, h2⟩ := List.mem_filter.mp hr
  rcases List.mem_cons.mp h1 with rfl | z
  · exact ⟨fun q hq => (by cases hq), Nat.zero_le _, h2⟩
  · obtain ⟨u, h3, h4⟩ := foundS_mem L 0 r z
    obtain ⟨h5, h6⟩ := lineS_mem h u r h4
    exact ⟨h5, by omega, h2⟩
theorem listed_len {st : List Step} (h : st.length ≤ 6) {L : Nat} (hL : L ≤ 6) : (listed st L).length ≤ 400000 := by
  refine Nat.le_trans (List.length_filter_le _ _) ?_
  have := foundS_len h L 0 (by omega)
  rw [List.length_cons]
  omega
/-! ### a row twice -/
def endO : List Str → List Step → List Str
  | own, [] => own
  | own, p :: r => endO (stepO p own) r
theorem isW_mono {p : Step} {own : List Str} {r q : List Step} (h : isW p own own r = false) : isW p own own (r ++ q) = false := by
  unfold isW at h ⊢
  split
  · rename_i h1
    rw [if_pos h1] at h
    simp at h ⊢
    exact ⟨h.1, fun z => absurd h.2 z⟩
  · rename_i h1
    rw [if_neg h1] at h
    exact h
theorem wr_app : ∀ (r q : List Step) (own : List Str), (wr own r).all (fun b => !b) = true → (wr (endO own r) q).all (fun b => !b) = true → (wr own (r ++ q)).all (fun b => !b) = true
  | [], q, own, _, h => h
  | p :: r, q, own, h1, h2 => by
    rw [wr, List.all_cons, Bool.and_eq_true] at h1
    have hp : isW p own own r = false := by simpa using h1.1
    rw [List.cons_append, wr, List.all_cons, isW_mono hp, wr_app r q _ h1.2 h2]; rfl
theorem end_empty : ∀ (r : List Step) (own : List Str), own.Nodup → (∀ x ∈ own, (("give" : Str), x) ∈ r) → (wr own r).all (fun b => !b) = true → endO own r = []
  | [], own, _, h, _ => by
    cases own with
    | nil => rfl
    | cons x l => exact absurd (h x List.mem_cons_self) (by simp)
  | p :: r, own, hd, hg, hw => by
    rw [wr, List.all_cons, Bool.and_eq_true] at hw
    have hp : isW p own own r = false := by simpa using hw.1
    show endO (stepO p own) r = []
    have tg : (("take" : Str)) ≠ ("give" : Str) := by decide
    refine end_empty r _ ?_ (fun x hx => ?_) hw.2
    · unfold stepO
      split
      · rename_i h1
        rw [isW, if_pos h1] at hp
        refine List.nodup_append.mpr ⟨hd, by simp, fun a ha b hb => ?_⟩
        rw [List.mem_singleton.mp hb]
        rintro rfl
        simp [ha] at hp
      · split
        · exact (List.dropLast_sublist own).nodup hd
        · exact hd
    · unfold stepO at hx
      split at hx
      · rename_i h1
        rw [isW, if_pos h1] at hp
        rcases List.mem_append.mp hx with z | z
        · rcases List.mem_cons.mp (hg x z) with e | e
          · exact absurd (h1.symm.trans (congrArg Prod.fst e).symm) tg
          · exact e
        · rw [List.mem_singleton.mp z]
          simp at hp
          exact hp.2
      · split at hx
        · rename_i h1 h2
          rw [isW, if_neg h1, if_pos h2] at hp
          have hl : own.getLast? = some p.2 := by
            simp at hp
            exact hp.2
          have hne : own ≠ [] := by rintro rfl; simp at hl
          have hx1 : x ∈ own := List.dropLast_subset _ hx
          rcases List.mem_cons.mp (hg x hx1) with e | e
          · exfalso
            have ex : x = p.2 := (congrArg Prod.snd e)
            have es : own.dropLast ++ [p.2] = own := by
              rw [List.getLast?_eq_some_getLast hne] at hl
              rw [← Option.some.inj hl]
              exact List.dropLast_concat_getLast hne
            have nd := hd
            rw [← es] at nd
            exact (List.nodup_append.mp nd).2.2 x hx p.2 (by simp) ex
          · exact e
        · rename_i h1 h2
          rcases List.mem_cons.mp (hg x hx) with e | e
          · exact absurd (congrArg Prod.fst e).symm h2
          · exact e
theorem bal_twice {ps : List Step} (h : bal ps = true) : bal (ps ++ ps) = true := by
  refine wr_app ps ps [] h ?_
  rw [end_empty ps [] List.nodup_nil (fun x hx => (by cases hx)) h]
  exact h
/-! ### prices -/
def waits (ps : List Step) : Nat := (ps.filter isWait).length
theorem cost_eq {w l : Int} : ∀ ps : List Step, cost w l ps = w * (waits ps : Nat) + l * ((ps.length : Int) - (waits ps : Nat))
  | [] => by simp [cost, waits]
  | p :: ps => by
    have ih := cost_eq (w := w) (l := l) ps
    have e : cost w l (p :: ps) = (if isWait p then w else l) + cost w l ps := by simp [cost]
    rw [e, ih]
    cases hp : isWait p with
    | true =>
      have : waits (p :: ps) = waits ps + 1 := by simp [waits, List.filter_cons, hp]
      rw [this, List.length_cons, if_pos rfl]
      push_cast
      rw [Int.mul_add w _ 1, Int.mul_one]
      have : ((ps.length : Int) + 1 - ((waits ps : Int) + 1)) = (ps.length : Int) - (waits ps : Int) := by omega
      rw [this]
      omega
    | false =>
      have : waits (p :: ps) = waits ps := by simp [waits, List.filter_cons, hp]
      rw [this, List.length_cons, if_neg Bool.false_ne_true]
      have : (((ps.length + 1 : Nat) : Int) - (waits ps : Int)) = ((ps.length : Int) - (waits ps : Int)) + 1 := by omega
      rw [this, Int.mul_add l _ 1, Int.mul_one]
      omega
theorem cost_app {w l : Int} {ps qs : List Step} : cost w l (ps ++ qs) = cost w l ps + cost w l qs := by simp [cost]
end K55
end

section
set_option Elab.async false
set_option linter.all false
set_option maxRecDepth 100000
set_option maxHeartbeats 2000000
namespace K55
open PySem Mi L2
section
variable {m : MH}
theorem own_run {ts : List Tag} {h0 : MV → MV → MM MV} {ps : List Step} {b : MV} {t : Tag} (ht : tagM m b = some t) (hc : ts.contains t = true) : oOwn [("Row", ts, fun as => h_Row___add__ as [])] h0 (row ps) b m = h_Row___add__ [row ps, b] [] m := by
  unfold oOwn
  rw [show clsM m (row ps) = some (("Row" : Str), [(("own_steps" : Str), MV.tup (sl ps))]) from rfl]
  simp only [List.lookup_cons, beq_self_eq_true, ht, hc, if_true]
theorem in_w3C {w : Str} (h : okS w) : inB (.str w) (.con [.str "halt", .str "settle", .str "drain"]) m = some (w = "halt" || w = "settle" || w = "drain") := by
  have := in_strsC (m := m) h ok_w3
  refine this.trans ?_
  simp [List.contains_cons, Bool.or_assoc]
theorem waits_comp {e0 e1 e2 e3 e4 e5 e6 e7 e8 e9 e10 e11 e13 e14 : Option MV} : ∀ ps : List Step, (∀ q ∈ ps, Good q) → collL (turnC (gNm 12) (tOf (eBin (lift2 (inO false)) (eBin (lift2 ixO) (eVar 12) (eC (.int 0))) (eLstC (aCons (eC (.str "halt")) (aCons (eC (.str "settle")) (aCons (eC (.str "drain")) aNil)))))) (eVar 12) [e0, e1, e2, e3, e4, e5, e6, e7, e8, e9, e10, e11, none, e13, e14]) (sl ps) m = .ok (sl (ps.filter isWait)) m
  | [], _ => rfl
  | p :: ps, h => by
    have ih := waits_comp (e0 := e0) (e1 := e1) (e2 := e2) (e3 := e3) (e4 := e4) (e5 := e5) (e6 := e6) (e7 := e7) (e8 := e8) (e9 := e9) (e10 := e10) (e11 := e11) (e13 := e13) (e14 := e14) ps fun q hq => h q (List.mem_cons_of_mem _ hq)
    have z3 : (3 : Nat) ≤ sizeLine := by decide
    have hi := in_w3C (m := m) (h p List.mem_cons_self).ok.1
    rw [show (p.1 = "halt" || p.1 = "settle" || p.1 = "drain" : Bool) = isWait p from rfl] at hi
    show collL _ (.tup [.str p.1, .str p.2] :: sl ps) m = _
    rw [collL_cons]
    cases hw : isWait p <;> rw [hw] at hi <;> simp [z3, hi, ih, hw]
    rfl
theorem row_turn {ps : List Step} {a b : Int} {e0 e1 e2 e3 e4 e5 e8 e9 e11 e12 e13 e14 : Option MV} (hv : ∀ q ∈ ps, Valid q) (hk : ps.length ≤ 6) (hb : bal ps = true) (ha : 0 ≤ a ∧ a ≤ 1000) (hbb : 0 ≤ b ∧ b ≤ 1000) :
    ∃ y11 y13 y14 m', b_law_f0 [e0, e1, e2, e3, e4, e5, some (.int a), some (.int b), e8, e9, some (.con (sl ps)), e11, e12, e13, e14] m = .nx [e0, e1, e2, e3, e4, e5, some (.int a), some (.int b), e8, e9, some (.con (sl ps)), y11, e12, y13, y14] m' := by
  have hg : ∀ q ∈ ps, Good q := fun q hq => (hv q hq).good
  have h400 : ps.length < 400 := by omega
  have hw : waits ps ≤ ps.length := List.length_filter_le _ _
  obtain ⟨t1, r1⟩ := row_make (m := m) (ps := []) (fun q hq => (by cases hq)) (by decide) rfl
  have hr1 : hMake "Row" (fun as => h_Row___init__ as []) [] m = .ok (row []) (m ++ t1) := r1
  obtain ⟨t2, r2⟩ := row_add (m := m ++ t1) (ps := []) (qs := ps) (x := .tup (sl ps)) (fun m => parts_tup) (by simpa using hv) (by simp; omega) (by simpa using hb)
  rw [List.nil_append] at r2
  have z : (ps.filter isWait).length ≤ sizeLine := Nat.le_trans (Nat.le_trans hw hk) (by decide)
  unfold b_law_f0
  have a1 : sSet 11 (eApp (lenO) (aCons (eComp (iSeqM (eVar 10)) [12] (turnC (gNm 12) (tOf (eBin (lift2 (inO false)) (eBin (lift2 ixO) (eVar 12) (eC (.int 0))) (eLstC (aCons (eC (.str "halt")) (aCons (eC (.str "settle")) (aCons (eC (.str "drain")) aNil)))))) (eVar 12))) aNil)) [e0, e1, e2, e3, e4, e5, some (.int a), some (.int b), e8, e9, some (.con (sl ps)), e11, e12, e13, e14] m = .nx [e0, e1, e2, e3, e4, e5, some (.int a), some (.int b), e8, e9, some (.con (sl ps)), some (.int (waits ps : Nat)), e12, e13, e14] m := by
    simp only [sset, eapp, acons, anil, ecomp, iseq, evS, ev0, srcSeq_con, cfx, wipeM, List.set_cons_succ, List.set_cons_zero, waits_comp ps hg, if_pos z, lenO_con, sl_length]
    rfl
  have a2 : sSet 13 (eBin (oOwn [("Row", [.b "tuple"], fun as => h_Row___add__ as [])] (lift2 addO)) (eCall (hMake "Row" (fun as => h_Row___init__ as [])) aNil) (eApp (tupleO) (aCons (eVar 10) aNil))) [e0, e1, e2, e3, e4, e5, some (.int a), some (.int b), e8, e9, some (.con (sl ps)), some (.int (waits ps : Nat)), e12, e13, e14] m = .nx [e0, e1, e2, e3, e4, e5, some (.int a), some (.int b), e8, e9, some (.con (sl ps)), some (.int (waits ps : Nat)), e12, some (row ps), e14] (m ++ t1 ++ t2) := by
    have ho := own_run (m := m ++ t1) (ts := [.b "tuple"]) (h0 := lift2 addO) (ps := []) (b := .tup (sl ps)) (t := .b "tuple") rfl (by decide)
    simp only [sset, ebin, ecall, anil, hr1, eapp, acons, evS, ev0, tupleO_con, ho, r2, List.set_cons_succ, List.set_cons_zero]
  generalize hM : m ++ t1 ++ t2 = m2 at a2
  have a3 : sSet 14 (eBin (lift2 subO) (eApp (lenO) (aCons (eVar 10) aNil)) (eVar 11)) [e0, e1, e2, e3, e4, e5, some (.int a), some (.int b), e8, e9, some (.con (sl ps)), some (.int (waits ps : Nat)), e12, some (row ps), e14] m2 = .nx [e0, e1, e2, e3, e4, e5, some (.int a), some (.int b), e8, e9, some (.con (sl ps)), some (.int (waits ps : Nat)), e12, some (row ps), some (.int ((ps.length : Int) - (waits ps : Nat)))] m2 := by
    simp only [sset, ebin, eapp, acons, anil, evS, ev0, lenO_con, sl_length, lift2_run, subO_int, List.set_cons_succ, List.set_cons_zero]
  have p1 := price_ok (m := m2) hg h400
  have p2 := price_plain_ok (m := m2) hg h400 hbb
  have p3 := law_price_ok (m := m2) hg h400 ha hbb
  have p4 := fun m => price_wait_ok (m := m) hg h400 ha
  have m3 : mulO (.int 3) (.int (waits ps : Nat)) m2 = some (.int (3 * (waits ps : Nat)), m2) := mulL (by decide)
  have mb : mulO (.int b) (.int ((ps.length : Int) - (waits ps : Nat))) m2 = some (.int (b * ((ps.length : Int) - (waits ps : Nat))), m2) := mulL (by omega)
  have ma : mulO (.int a) (.int (waits ps : Nat)) m2 = some (.int (a * (waits ps : Nat)), m2) := mulL (by omega)
  have c1 : Mi.eqO true (.int (cost 3 1 ps)) (.int (3 * (waits ps : Nat) + ((ps.length : Int) - (waits ps : Nat)))) m2 = some (.bl false, m2) := by
    rw [eq_int, cost_eq]; simp
  have c2 : Mi.eqO true (.int (cost 3 b ps)) (.int (3 * (waits ps : Nat) + b * ((ps.length : Int) - (waits ps : Nat)))) m2 = some (.bl false, m2) := by
    rw [eq_int, cost_eq]; simp
  have c3 : Mi.eqO true (.int (cost a b ps)) (.int (a * (waits ps : Nat) + b * ((ps.length : Int) - (waits ps : Nat)))) m2 = some (.bl false, m2) := by
    rw [eq_int, cost_eq]; simp
  have a4 : sIf (tOrM (tOf (eBin (lift2 (Mi.eqO true)) (eCall (fun as => h_price as []) (aCons (eVar 13) aNil)) (eBin (lift2 addO) (eBin (lift2 mulO) (eC (.int 3)) (eVar 11)) (eVar 14)))) (tOf (eBin (lift2 (Mi.eqO true)) (eCallK h_price_plain (aCons (eVar 13) aNil) (aCons (eVar 7) aNil)) (eBin (lift2 addO) (eBin (lift2 mulO) (eC (.int 3)) (eVar 11)) (eBin (lift2 mulO) (eVar 7) (eVar 14)))))) (sRet (eC (.bl false))) sNil [e0, e1, e2, e3, e4, e5, some (.int a), some (.int b), e8, e9, some (.con (sl ps)), some (.int (waits ps : Nat)), e12, some (row ps), some (.int ((ps.length : Int) - (waits ps : Nat)))] m2 = .nx [e0, e1, e2, e3, e4, e5, some (.int a), some (.int b), e8, e9, some (.con (sl ps)), some (.int (waits ps : Nat)), e12, some (row ps), some (.int ((ps.length : Int) - (waits ps : Nat)))] m2 := by
    simp only [sif, tor, tof, ebin, ecall, ecallk, acons, anil, evS, ev0, ec, p1, p2, lift2_run, m3, mb, addO_int, c1, c2, snil]
  have a5 : sIf (tOf (eBin (lift2 (Mi.eqO true)) (eCall (fun as => h__law_price as []) (aCons (eVar 13) (aCons (eVar 6) (aCons (eVar 7) aNil)))) (eBin (lift2 addO) (eBin (lift2 mulO) (eVar 6) (eVar 11)) (eBin (lift2 mulO) (eVar 7) (eVar 14))))) (sRet (eC (.bl false))) sNil [e0, e1, e2, e3, e4, e5, some (.int a), some (.int b), e8, e9, some (.con (sl ps)), some (.int (waits ps : Nat)), e12, some (row ps), some (.int ((ps.length : Int) - (waits ps : Nat)))] m2 = .nx [e0, e1, e2, e3, e4, e5, some (.int a), some (.int b), e8, e9, some (.con (sl ps)), some (.int (waits ps : Nat)), e12, some (row ps), some (.int ((ps.length : Int) - (waits ps : Nat)))] m2 := by
    simp only [sif, tof, ebin, ecall, acons, anil, evS, ev0, p3, lift2_run, ma, mb, addO_int, c3, snil]
  rw [seq_nx a1, seq_nx a2, seq_nx a3, seq_nx a4, seq_nx a5]
  by_cases h5 : ps.length < 5
  · have t5 : ((ps.length : Nat) : Int) < 5 := by omega
    obtain ⟨t3, r3⟩ := row_add (m := m2) (ps := ps) (qs := ps) (x := row ps) (fun m => parts_row) (fun q hq => by
      rcases List.mem_append.mp hq with z | z <;> exact hv q z) (by rw [List.length_append]; omega) (bal_twice hb)
    have hg2 : ∀ q ∈ ps ++ ps, Good q := fun q hq => by
      rcases List.mem_append.mp hq with z | z <;> exact hg q z
    have p5 := price_wait_ok (m := m2 ++ t3) hg2 (show (ps ++ ps).length < 400 by rw [List.length_append]; omega) ha
    have m2' : mulO (.int 2) (.int (cost a 1 ps)) (m2 ++ t3) = some (.int (2 * cost a 1 ps), m2 ++ t3) := mulL (by decide)
    have c4 : Mi.eqO true (.int (cost a 1 (ps ++ ps))) (.int (2 * cost a 1 ps)) (m2 ++ t3) = some (.bl false, m2 ++ t3) := by
      rw [eq_int, cost_app, show cost a 1 ps + cost a 1 ps = 2 * cost a 1 ps by omega]; simp
    have ho := own_run (m := m2) (ts := [.o "Row"]) (h0 := lift2 addO) (ps := ps) (b := row ps) (t := .o "Row") rfl (by decide)
    refine ⟨some (.int (waits ps : Nat)), some (row ps), some (.int ((ps.length : Int) - (waits ps : Nat))), m2 ++ t3, ?_⟩
    simp only [sif, tand, tof, ebin, ecallk, eapp, acons, anil, evS, ev0, ec, lenO_con, sl_length, lift2_run, ordO_int, decide_eq_true t5, ho, r3, p5, p4, m2', c4, snil]
  · have t5 : ¬ ((ps.length : Nat) : Int) < 5 := by omega
    refine ⟨some (.int (waits ps : Nat)), some (row ps), some (.int ((ps.length : Int) - (waits ps : Nat))), m2, ?_⟩
    simp only [sif, tand, tof, ebin, eapp, acons, anil, evS, ev0, ec, lenO_con, sl_length, lift2_run, ordO_int, decide_eq_false t5, snil]
end
end K55
end

section
set_option Elab.async false
set_option linter.all false
set_option maxRecDepth 100000
set_option maxHeartbeats 2000000
namespace K55
open PySem Mi L2
section
variable {m : MH}
theorem rows_loop {a b : Int} {e0 e1 e2 e3 e4 e5 e8 e9 e12 : Option MV} (ha : 0 ≤ a ∧ a ≤ 1000) (hbb : 0 ≤ b ∧ b ≤ 1000) : ∀ (rs : List (List Step)) (m : MH) (e10 e11 e13 e14 : Option MV), (∀ r ∈ rs, (∀ q ∈ r, Valid q) ∧ r.length ≤ 6 ∧ bal r = true) →
    ∃ y10 y11 y13 y14 m', forL (gNm 10) b_law_f0 (rl rs) [e0, e1, e2, e3, e4, e5, some (.int a), some (.int b), e8, e9, e10, e11, e12, e13, e14] m = .nx [e0, e1, e2, e3, e4, e5, some (.int a), some (.int b), e8, e9, y10, y11, e12, y13, y14] m'
  | [], m, e10, e11, e13, e14, _ => ⟨e10, e11, e13, e14, m, rfl⟩
  | r :: rs, m, e10, e11, e13, e14, h => by
    obtain ⟨h1, h2, h3⟩ := h r List.mem_cons_self
    obtain ⟨y11, y13, y14, m1, e1'⟩ := row_turn (m := m) (ps := r) (e0 := e0) (e1 := e1) (e2 := e2) (e3 := e3) (e4 := e4) (e5 := e5) (e8 := e8) (e9 := e9) (e11 := e11) (e12 := e12) (e13 := e13) (e14 := e14) h1 h2 h3 ha hbb
    obtain ⟨z10, z11, z13, z14, m2, e2'⟩ := rows_loop (e0 := e0) (e1 := e1) (e2 := e2) (e3 := e3) (e4 := e4) (e5 := e5) (e8 := e8) (e9 := e9) (e12 := e12) ha hbb rs m1 (some (.con (sl r))) y11 y13 y14 fun r hr => h r (List.mem_cons_of_mem _ hr)
    refine ⟨z10, z11, z13, z14, m2, ?_⟩
    show forL (gNm 10) b_law_f0 (.con (sl r) :: rl rs) _ m = _
    rw [forL_cons]
    simp only [gnm, List.set_cons_succ, List.set_cons_zero, e1']
    exact e2'
def rd (rs : List (List Step)) : PyData := .list (rs.map fun r => .list (r.map sd))
theorem rl_rd {rs : List (List Step)} : MV.con (rl rs) = mvD (rd rs) := by
  rw [rd, mvD, mvDs_map, List.map_map, rl]
  congr 1
  refine List.map_congr_left fun r _ => ?_
  show MV.con (sl r) = mvD (.list (r.map sd))
  rw [mvD, sl_sd]
theorem lay_rows : ∀ {rs : List (List Step)}, (∀ r ∈ rs, ∀ p ∈ r, okP p) → PyData.canLayAll0 (rs.map fun r => PyData.list (r.map sd)) = true
  | [], _ => rfl
  | r :: rs, h => by
    rw [List.map_cons, PyData.canLayAll0, lay_rows fun z hz => h z (List.mem_cons_of_mem _ hz), PyData.canLay0, lay_sds (h r List.mem_cons_self)]; rfl
theorem depth_rows : ∀ {rs : List (List Step)}, PyData.depthAll (rs.map fun r => PyData.list (r.map sd)) ≤ 2
  | [] => Nat.zero_le _
  | r :: rs => by
    rw [List.map_cons, PyData.depthAll, PyData.depth]
    have h1 := depth_rows (rs := rs)
    have h2 := depth_sds (ps := r)
    omega
theorem eq_rows {rs : List (List Step)} (h : ∀ r ∈ rs, ∀ p ∈ r, okP p) : Mi.eqO true (.con (rl rs)) (.con (rl rs)) m = some (.bl false, m) := by
  have hl : (rd rs).canLay0 = true := by rw [rd, PyData.canLay0]; exact lay_rows h
  have hd : (rd rs).depth ≤ 39 := by
    rw [rd, PyData.depth]
    have := depth_rows (rs := rs)
    omega
  rw [rl_rd]
  have := eqO_mvD (m := m) (neg := true) (d := rd rs) (f := rd rs) hl hd hl hd
  rw [PySem.SeqAt.eqv_refl _ hl] at this
  exact this
theorem eq_stock {st : List Step} (h : ∀ p ∈ st, okP p) : Mi.eqO true (.con (sl st)) (.con (sl st)) m = some (.bl false, m) := by
  have hl : PyData.canLay0 (.list (st.map sd)) = true := by rw [PyData.canLay0]; exact lay_sds h
  have hd : PyData.depth (.list (st.map sd)) ≤ 39 := by
    rw [PyData.depth]
    have := depth_sds (ps := st)
    omega
  have := eqO_mvD (m := m) (neg := true) (d := .list (st.map sd)) (f := .list (st.map sd)) hl hd hl hd
  rw [PySem.SeqAt.eqv_refl _ hl] at this
  rw [mvD, ← sl_sd] at this
  exact this
theorem cut40 {rs : List (List Step)} : cutM (rl rs) none (some 40) = rl (rs.take 40) := by
  have := cut_to (xs := rl rs) (k := 40)
  rw [rl, rl, List.map_take]
  exact this
theorem agree {h : List MV → MM MV} {e0 e1 e2 e3 e6 e7 e10 e11 e12 e13 e14 : Option MV} {r s l : MV} (hl : h [s, l] m = .ok r m) (q1 : Mi.eqO true r r m = some (.bl false, m)) (q2 : Mi.eqO true s s m = some (.bl false, m)) :
    sIf (tOrM (tOf (eBin (lift2 (Mi.eqO true)) (eVar 8) (eCall h (aCons (eVar 4) (aCons (eVar 5) aNil))))) (tOf (eBin (lift2 (Mi.eqO true)) (eVar 4) (eVar 9)))) (sRet (eC (.bl false))) sNil [e0, e1, e2, e3, some s, some l, e6, e7, some r, some s, e10, e11, e12, e13, e14] m = .nx [e0, e1, e2, e3, some s, some l, e6, e7, some r, some s, e10, e11, e12, e13, e14] m := by
  simp only [sif, tor, tof, ebin, ecall, acons, anil, evS, ev0, hl, lift2_run, q1, q2, snil]
theorem law_turn {s0 : MV} {c : Int} {k : Nat} (hk : k < 10) {x3 x4 x5 x6 x7 x8 x9 x10 x11 x12 x13 x14 : Option MV} :
    ∃ y3 y4 y5 y6 y7 y8 y9 y10 y11 y12 y13 y14 m', b_law_f1 [some s0, some (.int (k : Nat)), some (.int c), x3, x4, x5, x6, x7, x8, x9, x10, x11, x12, x13, x14] m = .nx [some s0, some (.int (k : Nat)), some (.int c), y3, y4, y5, y6, y7, y8, y9, y10, y11, y12, y13, y14] m' := by
  unfold b_law_f1
  have z4 : (4 : Nat) ≤ sizeLine := by decide
  obtain ⟨ns, e3⟩ := pool_ok (m := m) (c := c) (s := 5500 + k) (by omega)
  have hp : PoolAt (m.length + 1) ns (m ++ [.ded, .lst [.con (ns.map .int), .int 0]]) := ⟨0, by
    rw [List.getElem?_append_right (by omega)]
    have : m.length + 1 - m.length = 1 := by omega
    rw [this]; rfl⟩
  generalize hM : m ++ [.ded, .lst [.con (ns.map .int), .int 0]] = m1 at e3 hp
  generalize hn : m.length + 1 = n at e3 hp
  have a3 : sSet 3 (eCall (fun as => h__law_pool as []) (aCons (eVar 2) (aCons (eBin (lift2 addO) (eC (.int 5500)) (eVar 1)) (aCons (eC (.int 60)) aNil)))) [some s0, some (.int (k : Nat)), some (.int c), x3, x4, x5, x6, x7, x8, x9, x10, x11, x12, x13, x14] m = .nx [some s0, some (.int (k : Nat)), some (.int c), some (.ref n), x4, x5, x6, x7, x8, x9, x10, x11, x12, x13, x14] m1 := by
    simp only [sset, ecall, acons, anil, ebin, evS, ev0, ec, lift2_run, addO_int, e3, List.set_cons_succ, List.set_cons_zero]
  obtain ⟨st, m2, e4, hp2, hs⟩ := drawn_ok hp
  obtain ⟨l, m3, e5, hp3, l0, l7⟩ := draw_ok (q := 7) hp2 (by decide)
  have a4 : sPar 4 5 (aCons (eCall (fun as => h__law_drawn_stock as []) (aCons (eVar 3) aNil)) (aCons (eCall (fun as => h__law_draw as []) (aCons (eVar 3) (aCons (eC (.int 7)) aNil))) aNil)) [some s0, some (.int (k : Nat)), some (.int c), some (.ref n), x4, x5, x6, x7, x8, x9, x10, x11, x12, x13, x14] m1 = .nx [some s0, some (.int (k : Nat)), some (.int c), some (.ref n), some (.con (sl st)), some (.int l), x6, x7, x8, x9, x10, x11, x12, x13, x14] m3 := by
    simp only [spar, acons, anil, ecall, evS, ev0, ec, e4, e5, List.set_cons_succ, List.set_cons_zero]
  have a5 : ∃ L : Nat, L ≤ 6 ∧ sSet 5 (eIf (tOf (eBin (lift2 gtO) (eApp (lenO) (aCons (eVar 4) aNil)) (eC (.int 5)))) (eApp (min2O) (aCons (eVar 5) (aCons (eC (.int 4)) aNil))) (eVar 5)) [some s0, some (.int (k : Nat)), some (.int c), some (.ref n), some (.con (sl st)), some (.int l), x6, x7, x8, x9, x10, x11, x12, x13, x14] m3 = .nx [some s0, some (.int (k : Nat)), some (.int c), some (.ref n), some (.con (sl st)), some (.int (L : Nat)), x6, x7, x8, x9, x10, x11, x12, x13, x14] m3 := by
    have le : ((l.toNat : Nat) : Int) = l := by omega
    by_cases h5 : (5 : Int) < ((st.length : Nat) : Int)
    · by_cases h4 : (4 : Int) < l
      · refine ⟨4, by decide, ?_⟩
        simp only [sset, eif, tof, ebin, eapp, acons, anil, evS, ev0, ec, lenO_con, sl_length, lift2_run, gtO, ordO_int, decide_eq_true h5, min2O_int, if_pos h4, List.set_cons_succ, List.set_cons_zero]
        rfl
      · refine ⟨l.toNat, by omega, ?_⟩
        rw [le]
        simp only [sset, eif, tof, ebin, eapp, acons, anil, evS, ev0, ec, lenO_con, sl_length, lift2_run, gtO, ordO_int, decide_eq_true h5, min2O_int, if_neg h4, List.set_cons_succ, List.set_cons_zero]
    · refine ⟨l.toNat, by omega, ?_⟩
      rw [le]
      simp only [sset, eif, tof, ebin, eapp, acons, anil, evS, ev0, ec, lenO_con, sl_length, lift2_run, gtO, ordO_int, decide_eq_false h5, List.set_cons_succ, List.set_cons_zero]
  obtain ⟨L, hL, a5⟩ := a5
  obtain ⟨d, m4, e6, hp4, d0, d4⟩ := draw_ok (q := 420) hp3 (by decide)
  obtain ⟨x, m5, e7, hp5, hx⟩ := pick_con (xs := [.int 0, .int 1, .int 7, .int 1000]) hp4 (by decide)
  obtain ⟨b, hb, rfl⟩ : ∃ b : Int, (0 ≤ b ∧ b ≤ 1000) ∧ x = .int b := by
    simp only [List.mem_cons, List.not_mem_nil, or_false] at hx
    rcases hx with rfl | rfl | rfl | rfl
    · exact ⟨0, by decide, rfl⟩
    · exact ⟨1, by decide, rfl⟩
    · exact ⟨7, by decide, rfl⟩
    · exact ⟨1000, by decide, rfl⟩
  have md : mulO (.int d) (.int 2) m4 = some (.int (d * 2), m4) := mulR (by decide)
  have ha : 0 ≤ d * 2 ∧ d * 2 ≤ 1000 := by omega
  generalize d * 2 = a at md ha
  have a6 : sPar 6 7 (aCons (eBin (lift2 mulO) (eCall (fun as => h__law_draw as []) (aCons (eVar 3) (aCons (eC (.int 420)) aNil))) (eC (.int 2))) (aCons (eCall (fun as => h__law_pick as []) (aCons (eVar 3) (aCons (eLstC (aCons (eC (.int 0)) (aCons (eC (.int 1)) (aCons (eC (.int 7)) (aCons (eC (.int 1000)) aNil))))) aNil))) aNil)) [some s0, some (.int (k : Nat)), some (.int c), some (.ref n), some (.con (sl st)), some (.int (L : Nat)), x6, x7, x8, x9, x10, x11, x12, x13, x14] m3 = .nx [some s0, some (.int (k : Nat)), some (.int c), some (.ref n), some (.con (sl st)), some (.int (L : Nat)), some (.int a), some (.int b), x8, x9, x10, x11, x12, x13, x14] m5 := by
    simp only [spar, acons, anil, ebin, ecall, elstc, evS, ev0, ec, e6, lift2_run, md, List.length_cons, List.length_nil, Nat.zero_add, if_pos z4, e7, List.set_cons_succ, List.set_cons_zero]
  obtain ⟨m6, e8⟩ := law_rows_ok (m := m5) hs hL
  rw [listed_eq hs.nd] at e8
  have a8 : sPar 8 9 (aCons (eCall (fun as => h__law_rows as []) (aCons (eVar 4) (aCons (eVar 5) aNil))) (aCons (eApp (listO) (aCons (eVar 4) aNil)) aNil)) [some s0, some (.int (k : Nat)), some (.int c), some (.ref n), some (.con (sl st)), some (.int (L : Nat)), some (.int a), some (.int b), x8, x9, x10, x11, x12, x13, x14] m5 = .nx [some s0, some (.int (k : Nat)), some (.int c), some (.ref n), some (.con (sl st)), some (.int (L : Nat)), some (.int a), some (.int b), some (.con (rl (listed st L))), some (.con (sl st)), x10, x11, x12, x13, x14] m6 := by
    simp only [spar, acons, anil, ecall, eapp, evS, ev0, e8, listO_con, List.set_cons_succ, List.set_cons_zero]
  have hg : ∀ q ∈ st, Good q := fun q hq => (hs.v q hq).good
  have hl := law_listed_ok (m := m6) hg hs.most hL
  have hmem := listed_mem (L := L) hs.v
  have q1 := eq_rows (m := m6) (rs := listed st L) fun r hr p hp => ((hmem r hr).1 p hp).good.ok
  have q2 := eq_stock (m := m6) (st := st) fun p hp => (hg p hp).ok
  have a9 : sIf (tOrM (tOf (eBin (lift2 (Mi.eqO true)) (eVar 8) (eCall (fun as => h__law_listed as []) (aCons (eVar 4) (aCons (eVar 5) aNil))))) (tOf (eBin (lift2 (Mi.eqO true)) (eVar 4) (eVar 9)))) (sRet (eC (.bl false))) sNil [some s0, some (.int (k : Nat)), some (.int c), some (.ref n), some (.con (sl st)), some (.int (L : Nat)), some (.int a), some (.int b), some (.con (rl (listed st L))), some (.con (sl st)), x10, x11, x12, x13, x14] m6 = .nx [some s0, some (.int (k : Nat)), some (.int c), some (.ref n), some (.con (sl st)), some (.int (L : Nat)), some (.int a), some (.int b), some (.con (rl (listed st L))), some (.con (sl st)), x10, x11, x12, x13, x14] m6 := agree (h := fun as => h__law_listed as []) hl q1 q2
  obtain ⟨y10, y11, y13, y14, m7, e10⟩ := rows_loop (e0 := some s0) (e1 := some (.int (k : Nat))) (e2 := some (.int c)) (e3 := some (.ref n)) (e4 := some (.con (sl st))) (e5 := some (.int (L : Nat))) (e8 := some (.con (rl (listed st L)))) (e9 := some (.con (sl st))) (e12 := x12) ha hb ((listed st L).take 40) m6 x10 x11 x13 x14 fun r hr => by
    obtain ⟨h1, h2, h3⟩ := hmem r (List.mem_of_mem_take hr)
    exact ⟨h1, by omega, h3⟩
  have hsrc : iSeqM (eSl (eVar 8) oNone (oSome (eC (.int 40)))) [some s0, some (.int (k : Nat)), some (.int c), some (.ref n), some (.con (sl st)), some (.int (L : Nat)), some (.int a), some (.int b), some (.con (rl (listed st L))), some (.con (sl st)), x10, x11, x12, x13, x14] m6 = .ok (.fx (rl ((listed st L).take 40))) m6 := by
    simp only [iseq, esl, onone, osome, evS, ev0, ec, slM_con, cut40, srcSeq_con]
  obtain ⟨t1, r1⟩ := row_make (m := m7) (ps := []) (fun q hq => (by cases hq)) (by decide) rfl
  have hr1 : hMake "Row" (fun as => h_Row___init__ as []) [] m7 = .ok (row []) (m7 ++ t1) := r1
  obtain ⟨m8, r2⟩ := refused_ok (m := m7 ++ t1) (r := row []) hs
  have a11 : sIf (tNotM (tOf (eCall (fun as => h__law_refused as []) (aCons (eVar 4) (aCons (eCall (hMake "Row" (fun as => h_Row___init__ as [])) aNil) aNil))))) (sRet (eC (.bl false))) sNil [some s0, some (.int (k : Nat)), some (.int c), some (.ref n), some (.con (sl st)), some (.int (L : Nat)), some (.int a), some (.int b), some (.con (rl (listed st L))), some (.con (sl st)), y10, y11, x12, y13, y14] m7 = .nx [some s0, some (.int (k : Nat)), some (.int c), some (.ref n), some (.con (sl st)), some (.int (L : Nat)), some (.int a), some (.int b), some (.con (rl (listed st L))), some (.con (sl st)), y10, y11, x12, y13, y14] m8 := by
    simp only [sif, tnot, tof, ecall, acons, anil, evS, ev0, hr1, r2, Bool.not_true, snil]
  rw [seq_nx a3, seq_nx a4, seq_nx a5, seq_nx a6, seq_nx a8, seq_nx a9, seq_nx ((sfor_run hsrc).trans e10), a11]
  exact ⟨_, _, _, _, _, _, _, _, _, _, _, _, _, rfl⟩
theorem law_loop {s0 : MV} : ∀ (cs : List Int) (k : Nat) (m : MH) (x1 x2 x3 x4 x5 x6 x7 x8 x9 x10 x11 x12 x13 x14 : Option MV), k + cs.length ≤ 10 →
    ∃ e m', forL (gTp (gsCons (gNm 1) (gsCons (gNm 2) gsNil))) b_law_f1 (enumL k (cs.map .int)) [some s0, x1, x2, x3, x4, x5, x6, x7, x8, x9, x10, x11, x12, x13, x14] m = .nx e m'
  | [], k, m, x1, x2, x3, x4, x5, x6, x7, x8, x9, x10, x11, x12, x13, x14, _ => ⟨_, m, rfl⟩
  | c :: cs, k, m, x1, x2, x3, x4, x5, x6, x7, x8, x9, x10, x11, x12, x13, x14, h => by
    rw [List.length_cons] at h
    obtain ⟨y3, y4, y5, y6, y7, y8, y9, y10, y11, y12, y13, y14, m1, e1⟩ := law_turn (m := m) (s0 := s0) (c := c) (k := k) (by omega) (x3 := x3) (x4 := x4) (x5 := x5) (x6 := x6) (x7 := x7) (x8 := x8) (x9 := x9) (x10 := x10) (x11 := x11) (x12 := x12) (x13 := x13) (x14 := x14)
    obtain ⟨e, m2, e2⟩ := law_loop (s0 := s0) cs (k + 1) m1 (some (.int (k : Nat))) (some (.int c)) y3 y4 y5 y6 y7 y8 y9 y10 y11 y12 y13 y14 (by omega)
    refine ⟨e, m2, ?_⟩
    have e0 : forL (gTp (gsCons (gNm 1) (gsCons (gNm 2) gsNil))) b_law_f1 (enumL k ((c :: cs).map .int)) [some s0, x1, x2, x3, x4, x5, x6, x7, x8, x9, x10, x11, x12, x13, x14] m = (match b_law_f1 [some s0, some (.int (k : Nat)), some (.int c), x3, x4, x5, x6, x7, x8, x9, x10, x11, x12, x13, x14] m with
      | .nx e2 m2 => forL (gTp (gsCons (gNm 1) (gsCons (gNm 2) gsNil))) b_law_f1 (enumL (k + 1) (cs.map .int)) e2 m2
      | .ct e2 m2 => forL (gTp (gsCons (gNm 1) (gsCons (gNm 2) gsNil))) b_law_f1 (enumL (k + 1) (cs.map .int)) e2 m2
      | .bk e2 m2 => .nx e2 m2
      | o => o) := rfl
    rw [e0, e1]
    exact e2
theorem mvDs_ints {ns : List Int} : mvDs (ns.map .int) = ns.map .int := by rw [mvDs_map, List.map_map]; rfl
theorem lay_ints : ∀ {ns : List Int}, PyData.canLayAll0 (ns.map .int) = true
  | [] => rfl
  | y :: ys => by rw [List.map_cons, PyData.canLayAll0, lay_ints]; rfl
theorem depth_ints : ∀ {ns : List Int}, PyData.depthAll (ns.map .int) = 0
  | [] => rfl
  | y :: ys => by rw [List.map_cons, PyData.depthAll, PyData.depth, depth_ints]; rfl
theorem eq_ints {ns : List Int} : Mi.eqO false (.con (ns.map .int)) (.con []) m = some (.bl ns.isEmpty, m) := by
  rw [← mvDs_ints]
  have := eqO_mvD (m := m) (neg := false) (d := .list (ns.map .int)) (f := .list []) (by rw [PyData.canLay0]; exact lay_ints) (by rw [PyData.depth, depth_ints]; decide) (by decide) (by decide)
  refine this.trans ?_
  cases ns <;> simp [PyData.eqv, PyData.eqvAll]
theorem law_true : ∀ ns : List Int, ns.length ≤ 63 → ∃ m, h_law [.con (ns.map .int)] [] [] = .ok (.bl true) m := fun ns hns => by
  rw [r_law]
  unfold b_law
  have z0 : (0 : Nat) ≤ sizeLine := by decide
  have z1 : (1 : Nat) ≤ sizeLine := by decide
  have hcut : cutM (ns.map MV.int) none (some 4) = (ns.take 4).map MV.int := by
    have := cut_to (xs := ns.map MV.int) (k := 4)
    rw [List.map_take]
    exact this
  have hm := mul01 (m := []) (x := .int 7) (b := ns.isEmpty)
  have hadd : addO (.con ((ns.take 4).map MV.int)) (.con (if ns.isEmpty then [.int 7] else [])) [] = some (.con ((ns.take 4 ++ if ns.isEmpty then [7] else []).map MV.int), []) := by
    rw [addO_con, if_pos]
    · rw [List.map_append]
      cases ns.isEmpty <;> rfl
    · refine Nat.le_trans (show _ ≤ 5 from ?_) (by decide)
      rw [List.length_map, List.length_take]
      cases ns.isEmpty <;> simp <;> omega
  have hlen : (ns.take 4 ++ if ns.isEmpty then [7] else [] : List Int).length ≤ 5 := by
    rw [List.length_append, List.length_take]
    cases ns.isEmpty <;> simp <;> omega
  have hsrc : iEnumM (eBin (lift2 addO) (eSl (eVar 0) oNone (oSome (eC (.int 4)))) (eBin (lift2 mulO) (eLstC (aCons (eC (.int 7)) aNil)) (eApp (intO) (aCons (eBin (lift2 (Mi.eqO false)) (eVar 0) (eLstC aNil)) aNil)))) [some (.con (ns.map .int)), none, none, none, none, none, none, none, none, none, none, none, none, none, none] [] = .ok (.fx (enumL 0 ((ns.take 4 ++ if ns.isEmpty then [7] else []).map .int))) [] := by
    simp only [ienum, ebin, esl, onone, osome, ev0, ec, slM_con, hcut, elstc, acons, anil, List.length_cons, List.length_nil, Nat.zero_add, if_pos z1, if_pos z0, eapp, lift2_run, eq_ints, intO_bl, hm, hadd, srcEnum_con]
  obtain ⟨e, m', e1⟩ := law_loop (s0 := .con (ns.map .int)) (ns.take 4 ++ if ns.isEmpty then [7] else []) 0 [] none none none none none none none none none none none none none none (by omega)
  rw [seq_nx ((sfor_run hsrc).trans e1)]
  exact ⟨m', by simp only [sret, ec, ofSO_rt]⟩
end
end K55
end

section
set_option Elab.async false
set_option linter.all false
set_option maxRecDepth 100000
set_option maxHeartbeats 4000000
/-! the facts, as lists (printed by gen.py) -/
namespace K55
open PySem PySem.Spec PyProof.Rows L2 Mi
open He (ga ma)
def dd_price_of : He.DefD := ⟨("price_of", none), "price_of", "price_of", defArgs s_price_of, defBody s_price_of, defScope s_price_of, [], []⟩
def dd_Row_steps : He.DefD := ⟨("Row", some "steps"), "steps", "Row.steps", defArgs s_Row_steps, defBody s_Row_steps, defScope s_Row_steps, [], []⟩
def dd_is_whole : He.DefD := ⟨("is_whole", none), "is_whole", "is_whole", defArgs s_is_whole, defBody s_is_whole, defScope s_is_whole, [], []⟩
def dd_require_number : He.DefD := ⟨("require_number", none), "require_number", "require_number", defArgs s_require_number, defBody s_require_number, defScope s_require_number, [], []⟩
def dd_require_prices : He.DefD := ⟨("require_prices", none), "require_prices", "require_prices", defArgs s_require_prices, defBody s_require_prices, defScope s_require_prices, [], []⟩
def dd_price : He.DefD := ⟨("price", none), "price", "price", defArgs s_price, defBody s_price, defScope s_price, [], [("wait", .int 3), ("plain", .int 1)]⟩
def dd__law_price : He.DefD := ⟨("_law_price", none), "_law_price", "_law_price", defArgs s__law_price, defBody s__law_price, defScope s__law_price, [], []⟩
def dd_branches : He.DefD := ⟨("branches", none), "branches", "branches", defArgs s_branches, defBody s_branches, defScope s_branches, [], []⟩
def dd_is_wrong : He.DefD := ⟨("is_wrong", none), "is_wrong", "is_wrong", defArgs s_is_wrong, defBody s_is_wrong, defScope s_is_wrong, [], []⟩
def dd_wrongs : He.DefD := ⟨("wrongs", none), "wrongs", "wrongs", defArgs s_wrongs, defBody s_wrongs, defScope s_wrongs, [], []⟩
def dd_lock_fault : He.DefD := ⟨("lock_fault", none), "lock_fault", "lock_fault", defArgs s_lock_fault, defBody s_lock_fault, defScope s_lock_fault, [], []⟩
def dd_is_balanced : He.DefD := ⟨("is_balanced", none), "is_balanced", "is_balanced", defArgs s_is_balanced, defBody s_is_balanced, defScope s_is_balanced, [], []⟩
def dd_is_name : He.DefD := ⟨("is_name", none), "is_name", "is_name", defArgs s_is_name, defBody s_is_name, defScope s_is_name, [], []⟩
def dd_is_step : He.DefD := ⟨("is_step", none), "is_step", "is_step", defArgs s_is_step, defBody s_is_step, defScope s_is_step, [], []⟩
def dd_require_steps : He.DefD := ⟨("require_steps", none), "require_steps", "require_steps", defArgs s_require_steps, defBody s_require_steps, defScope s_require_steps, [], []⟩
def dd_Row___init__ : He.DefD := ⟨("Row", some "__init__"), "__init__", "Row.__init__", defArgs s_Row___init__, defBody s_Row___init__, defScope s_Row___init__, [], []⟩
def dd_require_stock : He.DefD := ⟨("require_stock", none), "require_stock", "require_stock", defArgs s_require_stock, defBody s_require_stock, defScope s_require_stock, [], []⟩
def dd_rows_of : He.DefD := ⟨("rows_of", none), "rows_of", "rows_of", defArgs s_rows_of, defBody s_rows_of, defScope s_rows_of, [], []⟩
def dd__law_rows : He.DefD := ⟨("_law_rows", none), "_law_rows", "_law_rows", defArgs s__law_rows, defBody s__law_rows, defScope s__law_rows, [], []⟩
def dd__law_refused : He.DefD := ⟨("_law_refused", none), "_law_refused", "_law_refused", defArgs s__law_refused, defBody s__law_refused, defScope s__law_refused, [], []⟩
def dd_Row_parts_of : He.DefD := ⟨("Row", some "parts_of"), "parts_of", "Row.parts_of", defArgs s_Row_parts_of, defBody s_Row_parts_of, defScope s_Row_parts_of, [], []⟩
def dd_Row___add__ : He.DefD := ⟨("Row", some "__add__"), "__add__", "Row.__add__", defArgs s_Row___add__, defBody s_Row___add__, defScope s_Row___add__, [], []⟩
def dd__law_balanced : He.DefD := ⟨("_law_balanced", none), "_law_balanced", "_law_balanced", defArgs s__law_balanced, defBody s__law_balanced, defScope s__law_balanced, [], []⟩
def dd__law_listed : He.DefD := ⟨("_law_listed", none), "_law_listed", "_law_listed", defArgs s__law_listed, defBody s__law_listed, defScope s__law_listed, [], []⟩
def dd__law_draw : He.DefD := ⟨("_law_draw", none), "_law_draw", "_law_draw", defArgs s__law_draw, defBody s__law_draw, defScope s__law_draw, [], []⟩
def dd__law_pick : He.DefD := ⟨("_law_pick", none), "_law_pick", "_law_pick", defArgs s__law_pick, defBody s__law_pick, defScope s__law_pick, [], []⟩
def dd__law_drawn_stock : He.DefD := ⟨("_law_drawn_stock", none), "_law_drawn_stock", "_law_drawn_stock", defArgs s__law_drawn_stock, defBody s__law_drawn_stock, defScope s__law_drawn_stock, [], []⟩
def dd__law_numbers : He.DefD := ⟨("_law_numbers", none), "_law_numbers", "_law_numbers", defArgs s__law_numbers, defBody s__law_numbers, defScope s__law_numbers, [], []⟩
def dd__law_pool : He.DefD := ⟨("_law_pool", none), "_law_pool", "_law_pool", defArgs s__law_pool, defBody s__law_pool, defScope s__law_pool, [], []⟩
def dd_law : He.DefD := ⟨("law", none), "law", "law", defArgs s_law, defBody s_law, defScope s_law, [], []⟩
def xd_InvalidNumber : ExD := ⟨"InvalidNumber", "InvalidNumber.__init__", defArgs sx_InvalidNumber, defBody sx_InvalidNumber, defScope sx_InvalidNumber, "value", "value", true⟩
theorem xt_InvalidNumber : ExTxt xd_InvalidNumber := ⟨⟨_, _, _, _, _, _, _, _, _, _, _, _, _, rfl, rfl, rfl, ⟨_, fun _ _ _ _ _ _ _ _ => rfl⟩⟩, rfl, rfl, rfl, rfl, fun _ _ _ _ _ _ _ _ _ _ _ _ => rfl⟩
def xd_InvalidStep : ExD := ⟨"InvalidStep", "InvalidStep.__init__", defArgs sx_InvalidStep, defBody sx_InvalidStep, defScope sx_InvalidStep, "index", "index", false⟩
theorem xt_InvalidStep : ExTxt xd_InvalidStep := ⟨⟨_, _, _, _, _, _, _, _, _, _, _, _, _, rfl, rfl, rfl, ⟨_, fun _ _ _ _ _ _ _ _ => rfl⟩⟩, rfl, rfl, rfl, rfl, fun _ _ _ _ _ _ _ _ _ _ _ _ => rfl⟩
def xd_InvalidStock : ExD := ⟨"InvalidStock", "InvalidStock.__init__", defArgs sx_InvalidStock, defBody sx_InvalidStock, defScope sx_InvalidStock, "value", "value", false⟩
theorem xt_InvalidStock : ExTxt xd_InvalidStock := ⟨⟨_, _, _, _, _, _, _, _, _, _, _, _, _, rfl, rfl, rfl, ⟨_, fun _ _ _ _ _ _ _ _ => rfl⟩⟩, rfl, rfl, rfl, rfl, fun _ _ _ _ _ _ _ _ _ _ _ _ => rfl⟩
def fa0 : List He.Fa := [.glo "law", .free "int", .free "enumerate", .str "DRAIN" "drain", .str "SETTLE" "settle", .str "HALT" "halt", .free "sum", .cls "Row", .noat "Row" "own_steps", .free "list", .meth "Row" "steps", .glo "price_of", .keep "price_of", .free "isinstance", .free "bool", .glo "is_whole", .keep "is_whole", .glo "InvalidNumber", .free "super", .int "MOST_PRICE" 1000]
def fa1 : List He.Fa := [.glo "require_number", .keep "require_number", .glo "require_prices", .keep "require_prices", .glo "price", .keep "price", .exm "InvalidNumber" "InvalidNumber" true, .exm "InvalidStock" "InvalidNumber" false, .exm "InvalidStep" "InvalidNumber" false, .free "repr", .glo "_law_price", .keep "_law_price", .free "range", .free "len", .str "CHOOSE" "choose", .str "TEST" "test", .glo "branches", .keep "branches", .glo "wrongs", .keep "wrongs"]
def fa2 : List He.Fa := [.str "GIVE" "give", .str "TAKE" "take", .str "PIECE" "piece", .glo "is_wrong", .keep "is_wrong", .free "tuple", .glo "lock_fault", .keep "lock_fault", .glo "is_balanced", .keep "is_balanced", .glo "InvalidStep", .int "MOST_STEPS" 8, .glo "STEPS", .str "LETTERS" "abcdefghijklmnopqrstuvwxyz", .free "all", .free "str", .int "MOST_SIGNS" 8, .glo "is_name", .keep "is_name", .glo "is_step"]
def fa3 : List He.Fa := [.keep "is_step", .glo "require_steps", .keep "require_steps", .mkr "Row", .glo "Row", .keep "Row", .int "MOST_STOCK" 6, .free "set", .glo "InvalidStock", .glo "require_stock", .keep "require_stock", .glo "rows_of", .keep "rows_of", .exm "InvalidNumber" "InvalidStock" false, .exm "InvalidStock" "InvalidStock" true, .exm "InvalidStep" "InvalidStock" false, .glo "_law_rows", .keep "_law_rows", .glo "_law_refused", .keep "_law_refused"]
def fa4 : List He.Fa := [.meth "Row" "parts_of", .glo "_law_balanced", .keep "_law_balanced", .glo "_law_listed", .keep "_law_listed", .glo "_law_draw", .keep "_law_draw", .glo "_law_pick", .keep "_law_pick", .free "min", .glo "_law_drawn_stock", .keep "_law_drawn_stock", .free "max", .glo "_law_numbers", .keep "_law_numbers", .glo "_law_pool", .keep "_law_pool"]
def fa : List He.Fa := fa0 ++ fa1 ++ fa2 ++ fa3 ++ fa4
def fb0 : List Fb := [.xf "InvalidNumber", .xno "InvalidNumber" "value", .xf "InvalidStock", .xno "InvalidStock" "value", .tup "STEPS" ["cancel", "bar", "halt", "settle", "close", "drain", "set", "clear", "take", "give"], .stop "InvalidStep", .stop "InvalidNumber", .stop "InvalidStock", .kit (.b "list") (.o "Row") false, .kit (.b "tuple") (.o "Row") false, .kit (.b "str") (.o "Row") false, .kit (.b "int") (.o "Row") false, .kit (.b "bool") (.o "Row") false, .kit (.b "NoneType") (.o "Row") false, .kit (.o "Row") (.o "Row") true, .insk "Row", .oth "Row" "add" (.o "Row"), .own "Row" "add", .oth "Row" "add" (.b "tuple")]
def fb : List Fb := fb0
def fn0 : List He.DefD := [dd_price_of, dd_Row_steps, dd_is_whole, dd_require_number, dd_require_prices, dd_price, dd__law_price, dd_branches, dd_is_wrong, dd_wrongs, dd_lock_fault, dd_is_balanced, dd_is_name, dd_is_step, dd_require_steps, dd_Row___init__, dd_require_stock, dd_rows_of, dd__law_rows, dd__law_refused]
def fn1 : List He.DefD := [dd_Row_parts_of, dd_Row___add__, dd__law_balanced, dd__law_listed, dd__law_draw, dd__law_pick, dd__law_drawn_stock, dd__law_numbers, dd__law_pool, dd_law]
def fn : List He.DefD := fn0 ++ fn1
def xn0 : List ExD := [xd_InvalidNumber, xd_InvalidStep, xd_InvalidStock]
def xn : List ExD := xn0
def names0 : List Str := ["_wall", "DownError", "InvalidStep", "InvalidStock", "InvalidNumber", "CANCEL", "SET", "CLEAR", "TAKE", "GIVE", "TEST", "CHOOSE", "PIECE", "BAR", "HALT", "SETTLE", "CLOSE", "DRAIN", "STEPS", "LETTERS"]
def names1 : List Str := ["MOST_SIGNS", "is_whole", "is_name", "branches", "is_wrong", "wrongs", "lock_fault", "is_step", "MOST_STEPS", "require_steps", "is_balanced", "Row", "MOST_STOCK", "MOST_PRICE", "WAIT", "PLAIN", "require_stock", "require_number", "require_prices", "price_of"]
def names2 : List Str := ["price", "rows_of", "_law_numbers", "_law_pool", "_law_draw", "_law_pick", "_law_balanced", "_law_listed", "_law_rows", "_law_price", "_law_drawn_stock", "_law_refused"]
def names : List Str := names0 ++ names1 ++ names2
theorem txt_of {P : Program} {K : PySem.W.Frag} {h : Heap} {mg : Str → Option Value} (hsup : (P.main.scope.names.lookup ("super" : Str)).isSome = false) (X : K.In h) (G : h.Ns mainGlobals mg) (c : SaysM P.main.file fa fb fn xn K) : Txt P K mg where
  g_law := He.glo_ok X G (c.fact 0 (f := .glo "law") rfl)
  n_int := He.free_ok X G (c.fact 1 (f := .free "int") rfl)
  n_enumerate := He.free_ok X G (c.fact 2 (f := .free "enumerate") rfl)
  c_DRAIN := He.str_ok X G (c.fact 3 (f := .str "DRAIN" "drain") rfl)
  c_SETTLE := He.str_ok X G (c.fact 4 (f := .str "SETTLE" "settle") rfl)
  c_HALT := He.str_ok X G (c.fact 5 (f := .str "HALT" "halt") rfl)
  n_sum := He.free_ok X G (c.fact 6 (f := .free "sum") rfl)
  f_price_of := c.def_ 0 (d := dd_price_of) rfl
  cl_Row := He.cls_ok (c.fact 7 (f := .cls "Row") rfl)
  na_Row_own_steps := He.noat_ok (c.fact 8 (f := .noat "Row" "own_steps") rfl)
  n_list := He.free_ok X G (c.fact 9 (f := .free "list") rfl)
  f_Row_steps := c.def_ 1 (d := dd_Row_steps) rfl
  m_Row_steps := He.meth_ok (c.fact 10 (f := .meth "Row" "steps") rfl)
  g_price_of := He.glo_ok X G (c.fact 11 (f := .glo "price_of") rfl)
  k_price_of := He.keep_ok (c.fact 12 (f := .keep "price_of") rfl)
  n_isinstance := He.free_ok X G (c.fact 13 (f := .free "isinstance") rfl)
  n_bool := He.free_ok X G (c.fact 14 (f := .free "bool") rfl)
  f_is_whole := c.def_ 2 (d := dd_is_whole) rfl
  g_is_whole := He.glo_ok X G (c.fact 15 (f := .glo "is_whole") rfl)
  k_is_whole := He.keep_ok (c.fact 16 (f := .keep "is_whole") rfl)
  x_InvalidNumber := c.exc 0 (d := xd_InvalidNumber) xt_InvalidNumber rfl
  g_InvalidNumber := He.glo_ok X G (c.fact 17 (f := .glo "InvalidNumber") rfl)
  n_super := He.free_ok X G (c.fact 18 (f := .free "super") rfl)
  top_super := hsup
  f_require_number := c.def_ 3 (d := dd_require_number) rfl
  c_MOST_PRICE := He.int_ok X G (c.fact 19 (f := .int "MOST_PRICE" 1000) rfl)
  g_require_number := He.glo_ok X G (c.fact 20 (f := .glo "require_number") rfl)
  k_require_number := He.keep_ok (c.fact 21 (f := .keep "require_number") rfl)
  f_require_prices := c.def_ 4 (d := dd_require_prices) rfl
  g_require_prices := He.glo_ok X G (c.fact 22 (f := .glo "require_prices") rfl)
  k_require_prices := He.keep_ok (c.fact 23 (f := .keep "require_prices") rfl)
  f_price := c.def_ 5 (d := dd_price) rfl
  g_price := He.glo_ok X G (c.fact 24 (f := .glo "price") rfl)
  k_price := He.keep_ok (c.fact 25 (f := .keep "price") rfl)
  exm_InvalidNumber_InvalidNumber := He.exm_ok (c.fact 26 (f := .exm "InvalidNumber" "InvalidNumber" true) rfl)
  exm_InvalidStock_InvalidNumber := He.exm_ok (c.fact 27 (f := .exm "InvalidStock" "InvalidNumber" false) rfl)
  exm_InvalidStep_InvalidNumber := He.exm_ok (c.fact 28 (f := .exm "InvalidStep" "InvalidNumber" false) rfl)
  xf_InvalidNumber := xf_ok (c.more 0 (f := .xf "InvalidNumber") rfl)
  xno_InvalidNumber_value := xno_ok (c.more 1 (f := .xno "InvalidNumber" "value") rfl)
  xf_InvalidStock := xf_ok (c.more 2 (f := .xf "InvalidStock") rfl)
  xno_InvalidStock_value := xno_ok (c.more 3 (f := .xno "InvalidStock" "value") rfl)
  n_repr := He.free_ok X G (c.fact 29 (f := .free "repr") rfl)
  f__law_price := c.def_ 6 (d := dd__law_price) rfl
  g__law_price := He.glo_ok X G (c.fact 30 (f := .glo "_law_price") rfl)
  k__law_price := He.keep_ok (c.fact 31 (f := .keep "_law_price") rfl)
  n_range := He.free_ok X G (c.fact 32 (f := .free "range") rfl)
  n_len := He.free_ok X G (c.fact 33 (f := .free "len") rfl)
  c_CHOOSE := He.str_ok X G (c.fact 34 (f := .str "CHOOSE" "choose") rfl)
  c_TEST := He.str_ok X G (c.fact 35 (f := .str "TEST" "test") rfl)
  f_branches := c.def_ 7 (d := dd_branches) rfl
  g_branches := He.glo_ok X G (c.fact 36 (f := .glo "branches") rfl)
  k_branches := He.keep_ok (c.fact 37 (f := .keep "branches") rfl)
  g_wrongs := He.glo_ok X G (c.fact 38 (f := .glo "wrongs") rfl)
  k_wrongs := He.keep_ok (c.fact 39 (f := .keep "wrongs") rfl)
  c_GIVE := He.str_ok X G (c.fact 40 (f := .str "GIVE" "give") rfl)
  c_TAKE := He.str_ok X G (c.fact 41 (f := .str "TAKE" "take") rfl)
  c_PIECE := He.str_ok X G (c.fact 42 (f := .str "PIECE" "piece") rfl)
  f_is_wrong := c.def_ 8 (d := dd_is_wrong) rfl
  g_is_wrong := He.glo_ok X G (c.fact 43 (f := .glo "is_wrong") rfl)
  k_is_wrong := He.keep_ok (c.fact 44 (f := .keep "is_wrong") rfl)
  f_wrongs := c.def_ 9 (d := dd_wrongs) rfl
  f_lock_fault := c.def_ 10 (d := dd_lock_fault) rfl
  n_tuple := He.free_ok X G (c.fact 45 (f := .free "tuple") rfl)
  g_lock_fault := He.glo_ok X G (c.fact 46 (f := .glo "lock_fault") rfl)
  k_lock_fault := He.keep_ok (c.fact 47 (f := .keep "lock_fault") rfl)
  f_is_balanced := c.def_ 11 (d := dd_is_balanced) rfl
  g_is_balanced := He.glo_ok X G (c.fact 48 (f := .glo "is_balanced") rfl)
  k_is_balanced := He.keep_ok (c.fact 49 (f := .keep "is_balanced") rfl)
  x_InvalidStep := c.exc 1 (d := xd_InvalidStep) xt_InvalidStep rfl
  g_InvalidStep := He.glo_ok X G (c.fact 50 (f := .glo "InvalidStep") rfl)
  c_MOST_STEPS := He.int_ok X G (c.fact 51 (f := .int "MOST_STEPS" 8) rfl)
  g_STEPS := He.glo_ok X G (c.fact 52 (f := .glo "STEPS") rfl)
  t_STEPS := tup_ok (c.more 4 (f := .tup "STEPS" ["cancel", "bar", "halt", "settle", "close", "drain", "set", "clear", "take", "give"]) rfl)
  c_LETTERS := He.str_ok X G (c.fact 53 (f := .str "LETTERS" "abcdefghijklmnopqrstuvwxyz") rfl)
  n_all := He.free_ok X G (c.fact 54 (f := .free "all") rfl)
  n_str := He.free_ok X G (c.fact 55 (f := .free "str") rfl)
  c_MOST_SIGNS := He.int_ok X G (c.fact 56 (f := .int "MOST_SIGNS" 8) rfl)
  f_is_name := c.def_ 12 (d := dd_is_name) rfl
  g_is_name := He.glo_ok X G (c.fact 57 (f := .glo "is_name") rfl)
  k_is_name := He.keep_ok (c.fact 58 (f := .keep "is_name") rfl)
  f_is_step := c.def_ 13 (d := dd_is_step) rfl
  g_is_step := He.glo_ok X G (c.fact 59 (f := .glo "is_step") rfl)
  k_is_step := He.keep_ok (c.fact 60 (f := .keep "is_step") rfl)
  f_require_steps := c.def_ 14 (d := dd_require_steps) rfl
  g_require_steps := He.glo_ok X G (c.fact 61 (f := .glo "require_steps") rfl)
  k_require_steps := He.keep_ok (c.fact 62 (f := .keep "require_steps") rfl)
  f_Row___init__ := c.def_ 15 (d := dd_Row___init__) rfl
  mk_Row := He.mkr_ok (c.fact 63 (f := .mkr "Row") rfl)
  g_Row := He.glo_ok X G (c.fact 64 (f := .glo "Row") rfl)
  k_Row := He.keep_ok (c.fact 65 (f := .keep "Row") rfl)
  c_MOST_STOCK := He.int_ok X G (c.fact 66 (f := .int "MOST_STOCK" 6) rfl)
  n_set := He.free_ok X G (c.fact 67 (f := .free "set") rfl)
  x_InvalidStock := c.exc 2 (d := xd_InvalidStock) xt_InvalidStock rfl
  g_InvalidStock := He.glo_ok X G (c.fact 68 (f := .glo "InvalidStock") rfl)
  f_require_stock := c.def_ 16 (d := dd_require_stock) rfl
  g_require_stock := He.glo_ok X G (c.fact 69 (f := .glo "require_stock") rfl)
  k_require_stock := He.keep_ok (c.fact 70 (f := .keep "require_stock") rfl)
  f_rows_of := c.def_ 17 (d := dd_rows_of) rfl
  stop_InvalidStep := stop_ok (c.more 5 (f := .stop "InvalidStep") rfl)
  stop_InvalidNumber := stop_ok (c.more 6 (f := .stop "InvalidNumber") rfl)
  stop_InvalidStock := stop_ok (c.more 7 (f := .stop "InvalidStock") rfl)
  tl_Row_steps := by
    obtain ⟨fd, F⟩ := c.def_ 1 (d := dd_Row_steps) rfl
    exact ⟨⟨_, _, _, _, _, _, _, _, _, _, _, _, F, ⟨rfl, rfl, rfl, by decide +kernel, rfl, by decide +kernel, by decide +kernel⟩, fun _ _ _ _ _ _ us hl => match us, hl with | [_], _ => rfl, rfl, fun _ _ => rfl, by decide⟩, He.free_ok X G (c.fact 9 (f := .free "list") rfl), He.cls_ok (c.fact 7 (f := .cls "Row") rfl), He.meth_ok (c.fact 10 (f := .meth "Row" "steps") rfl), He.noat_ok (c.fact 8 rfl)⟩
  g_rows_of := He.glo_ok X G (c.fact 71 (f := .glo "rows_of") rfl)
  k_rows_of := He.keep_ok (c.fact 72 (f := .keep "rows_of") rfl)
  exm_InvalidNumber_InvalidStock := He.exm_ok (c.fact 73 (f := .exm "InvalidNumber" "InvalidStock" false) rfl)
  exm_InvalidStock_InvalidStock := He.exm_ok (c.fact 74 (f := .exm "InvalidStock" "InvalidStock" true) rfl)
  exm_InvalidStep_InvalidStock := He.exm_ok (c.fact 75 (f := .exm "InvalidStep" "InvalidStock" false) rfl)
  f__law_rows := c.def_ 18 (d := dd__law_rows) rfl
  g__law_rows := He.glo_ok X G (c.fact 76 (f := .glo "_law_rows") rfl)
  k__law_rows := He.keep_ok (c.fact 77 (f := .keep "_law_rows") rfl)
  f__law_refused := c.def_ 19 (d := dd__law_refused) rfl
  g__law_refused := He.glo_ok X G (c.fact 78 (f := .glo "_law_refused") rfl)
  k__law_refused := He.keep_ok (c.fact 79 (f := .keep "_law_refused") rfl)
  kit_list_Row := kit_ok (c.more 8 (f := .kit (.b "list") (.o "Row") false) rfl)
  kit_tuple_Row := kit_ok (c.more 9 (f := .kit (.b "tuple") (.o "Row") false) rfl)
  kit_str_Row := kit_ok (c.more 10 (f := .kit (.b "str") (.o "Row") false) rfl)
  kit_int_Row := kit_ok (c.more 11 (f := .kit (.b "int") (.o "Row") false) rfl)
  kit_bool_Row := kit_ok (c.more 12 (f := .kit (.b "bool") (.o "Row") false) rfl)
  kit_NoneType_Row := kit_ok (c.more 13 (f := .kit (.b "NoneType") (.o "Row") false) rfl)
  kit_Row_Row := kit_ok (c.more 14 (f := .kit (.o "Row") (.o "Row") true) rfl)
  ik_Row := insk_ok (c.more 15 (f := .insk "Row") rfl)
  f_Row_parts_of := c.def_ 20 (d := dd_Row_parts_of) rfl
  m_Row_parts_of := He.meth_ok (c.fact 80 (f := .meth "Row" "parts_of") rfl)
  f_Row___add__ := c.def_ 21 (d := dd_Row___add__) rfl
  oth_Row_add_Row := oth_ok (c.more 16 (f := .oth "Row" "add" (.o "Row")) rfl)
  own_Row_add := own_ok (c.more 17 (f := .own "Row" "add") rfl)
  oth_Row_add_tuple := oth_ok (c.more 18 (f := .oth "Row" "add" (.b "tuple")) rfl)
  f__law_balanced := c.def_ 22 (d := dd__law_balanced) rfl
  g__law_balanced := He.glo_ok X G (c.fact 81 (f := .glo "_law_balanced") rfl)
  k__law_balanced := He.keep_ok (c.fact 82 (f := .keep "_law_balanced") rfl)
  f__law_listed := c.def_ 23 (d := dd__law_listed) rfl
  g__law_listed := He.glo_ok X G (c.fact 83 (f := .glo "_law_listed") rfl)
  k__law_listed := He.keep_ok (c.fact 84 (f := .keep "_law_listed") rfl)
  f__law_draw := c.def_ 24 (d := dd__law_draw) rfl
  g__law_draw := He.glo_ok X G (c.fact 85 (f := .glo "_law_draw") rfl)
  k__law_draw := He.keep_ok (c.fact 86 (f := .keep "_law_draw") rfl)
  f__law_pick := c.def_ 25 (d := dd__law_pick) rfl
  g__law_pick := He.glo_ok X G (c.fact 87 (f := .glo "_law_pick") rfl)
  k__law_pick := He.keep_ok (c.fact 88 (f := .keep "_law_pick") rfl)
  n_min := He.free_ok X G (c.fact 89 (f := .free "min") rfl)
  f__law_drawn_stock := c.def_ 26 (d := dd__law_drawn_stock) rfl
  g__law_drawn_stock := He.glo_ok X G (c.fact 90 (f := .glo "_law_drawn_stock") rfl)
  k__law_drawn_stock := He.keep_ok (c.fact 91 (f := .keep "_law_drawn_stock") rfl)
  n_max := He.free_ok X G (c.fact 92 (f := .free "max") rfl)
  f__law_numbers := c.def_ 27 (d := dd__law_numbers) rfl
  g__law_numbers := He.glo_ok X G (c.fact 93 (f := .glo "_law_numbers") rfl)
  k__law_numbers := He.keep_ok (c.fact 94 (f := .keep "_law_numbers") rfl)
  f__law_pool := c.def_ 28 (d := dd__law_pool) rfl
  g__law_pool := He.glo_ok X G (c.fact 95 (f := .glo "_law_pool") rfl)
  k__law_pool := He.keep_ok (c.fact 96 (f := .keep "_law_pool") rfl)
  f_law := c.def_ 29 (d := dd_law) rfl
end K55
end

section
set_option Elab.async false
set_option linter.all false
set_option maxRecDepth 100000
set_option maxHeartbeats 0
namespace K55
open PySem PySem.W PySem.Calls PyProof.Rows
abbrev R : OpenRow := OpenLaw.row PySem.Challenge.rw_takendown_k55_whole_rows_out_of_stocks
abbrev file : PySem.Str := PySem.Challenge.pw_takendown_k55_whole_rows_out_of_stocks.main.file
abbrev hk : Hook := Mi.hookM 4 file fa fb fn xn
def ob (s : SharedT) : Mi.AlM := Mi.obsMG 4 file fa fb fn xn (HandSHeadRun.getT s)
theorem ob_eq (s : SharedT) : ob s = hk.obs s.abs := Mi.obsMG_eq (HandSHeadRun.getT_eq s)
theorem run (w : World) : HandSHeadRun.RunEq R (view R.prog [57]) hk ob 5000 names w := by
  intro os
  kernel_rfl
end K55
end

set_option Elab.async false
set_option linter.all false
open PySem PySem.W PyProof.Rows
set_option maxRecDepth 100000 in
set_option maxHeartbeats 0 in
theorem PySem.Challenge.cw_takendown_k55_whole_rows_out_of_stocks_holds : PySem.Challenge.rw_takendown_k55_whole_rows_out_of_stocks.Holds := by
  w_on; o_law
  refine HandSHeadRun.head_any (r := OpenLaw.row PySem.Challenge.rw_takendown_k55_whole_rows_out_of_stocks) (q := view (OpenLaw.row PySem.Challenge.rw_takendown_k55_whole_rows_out_of_stocks).prog [57]) (H := K55.hk) (ob := K55.ob) (M := 5000) (loose := K55.names) (d := HandSHeadRun.topDef (OpenLaw.row PySem.Challenge.rw_takendown_k55_whole_rows_out_of_stocks).prog 57) (kwd := []) K55.ob_eq
    (by kernel_rfl) (fun s => by kernel_rfl) K55.run (by kernel_rfl) (by kernel_rfl) (by kernel_rfl) (by rfl) (by first | assumption | decide +kernel) (by decide +kernel) ⟨rfl, rfl, rfl, rfl, rfl, by decide +kernel⟩ ?hw ?hc
  case hw => w_witness2
  case hc =>
    refine Mi.walk_ofM (l := PySem.Challenge.rw_takendown_k55_whole_rows_out_of_stocks) (n := 63) (k := 12) rfl (by decide) (by kernel_rfl) ⟨⟨rfl, by decide, by decide⟩, rfl⟩ ?F
    intro w mg fa h Y G hmg0
    obtain ⟨K, KX, c⟩ := Y
    have hmg : mg ("law" : PySem.Str) = some (.ref fa) := by
      have e : (HandSHeadRun.topDef (OpenLaw.row PySem.Challenge.rw_takendown_k55_whole_rows_out_of_stocks).prog 57).name = ("law" : PySem.Str) := by kernel_rfl
      rw [← e]
      exact hmg0
    have T : K55.Txt PySem.Challenge.pw_takendown_k55_whole_rows_out_of_stocks K mg := K55.txt_of (by decide +kernel) KX G c
    have e := hmg.symm.trans T.g_law
    cases e
    exact ⟨K, He.ga K, K55.h_law, KX, c.nl, K55.law_true, fun base => K55.fg_law T⟩
